import PyProof.Rows.All
import HandS.ForMost
import HandS.TupAny
import HandS.TupMul
import HandS.Conv
import HandS.SortInts
import HandS.Style
import HandS.IsInst
import HandS.EndOwn
import HandS.AnyAll
import HandS.Wide
import HandS.Deep
import HandS.Zip
import HandS.Rev
import HandS.RevRange
import KE.GoesEnum
import KE.GoesMore
import KE.SortData
import KE.DataEq
import HandS.SortKw
import HandS.SetFor
import HandS.Flt
import HandS.DictTup
import HandS.TupLen
import HandS.WordsDict
import HandS.DictEq
import HandS.More
import HandS.DictComp
import KE.KDictDisplayH
import HandS.Nested
import HandS.NamedTupSort
import PySem.Challenge.RW_sumwright_k58_index_rows_and_rises
set_option Elab.async false
set_option linter.all false
set_option maxRecDepth 100000
section
/-! FL: the functional layer: pure data D, worlds, judgements. -/
namespace FL
open PySem PySem.Spec PyProof.Rows L2

/-- pure data -/
inductive D where
  | non | bl (b : Bool) | int (i : Int) | str (x : Str) | tup (ds : List D) | lst (ds : List D) | dic (t : Bool) (kvs : List (D × D)) | tok

abbrev Ora := List Int × Int
/-- the draw state's two cells; the code tables that may grow -/
structure Qa where
  p : Option (Addr × Addr)
  T : Addr → Prop
def Qfree (q : Qa) (a : Addr) : Prop := (∀ p, q.p = some p → a ≠ p.1 ∧ a ≠ p.2) ∧ ¬ q.T a
/-- the defs that hold a generator expression -/
def gnames : List Str := ["is_partition", "holds", "is_above", "is_whole", "in_box", "refines", "is_rule", "keeps", "is_falling", "is_full", "is_perfect", "is_core", "unlike_rows", "is_number", "is_heap"]
/-- the code table of such a def -/
def TblK (K : PySem.W.Frag) (P : Addr) : Prop := ∃ (x : Str) (f c : Addr) (oc : Value) (od : Option Addr) (fd : FuncData) (osl : Array (Option Value)) (e : Value) (dd : Option Addr) (vs : Array Value) (sl : Array (Option Value)),
  x ∈ gnames ∧ PySem.W.nsIn K mainGlobals x = some (some (.ref f)) ∧ K.lookup f = some ⟨oc, od, .func fd, osl⟩ ∧ fd.code = .ref c ∧ K.lookup c = some ⟨e, dd, .fields vs, sl⟩ ∧ vs[11]? = some (.ref P)

/-- a tracked tuple -/
def TupF (_K : PySem.W.Frag) (F : Hp) (a : Addr) (vs : List V) : Prop := F a = some (.tup vs)
theorem TupF.sq {K : PySem.W.Frag} {F : Hp} {a : Addr} {vs : List V} (h : TupF K F a vs) : SqT K F a vs := .inl (.inl h)
def kD : Key → D
  | .inl i => .int i
  | .inr x => .str x

section
variable (K : PySem.W.Frag) (q : Qa) (F : Hp)
mutual
inductive Rep : V → D → Prop
  | non : Rep .non .non
  | bl (b : Bool) : Rep (.bl b) (.bl b)
  | int (i : Int) : Rep (.int i) (.int i)
  | str (x : Str) : Rep (.str x) (.str x)
  | tup {a : Addr} {vs : List V} {ds : List D} : TupF K F a vs → Reps vs ds → Rep (.ref a) (.tup ds)
  | lst {a : Addr} {vs : List V} {ds : List D} : F a = some (.lst vs) → Reps vs ds → Rep (.ref a) (.lst ds)
  | dic {a : Addr} {o : Obj} {kv : List (Key × V)} {kvs : List (D × D)} : F a = some (.frz o (.dK kv)) → RepKv kv kvs → Rep (.ref a) (.dic false kvs)
  | dit {a : Addr} {o : Obj} {kv : List (List Key × V)} {kvs : List (D × D)} : F a = some (.frz o (.dT kv)) → RepKt kv kvs → Rep (.ref a) (.dic true kvs)
  | tok {a c : Addr} : q.p = some (a, c) → Rep (.ref a) .tok
inductive Reps : List V → List D → Prop
  | nil : Reps [] []
  | cons {v : V} {vs : List V} {d : D} {ds : List D} : Rep v d → Reps vs ds → Reps (v :: vs) (d :: ds)
inductive RepKv : List (Key × V) → List (D × D) → Prop
  | nil : RepKv [] []
  | cons {k : Key} {v : V} {vs : List (Key × V)} {d : D} {ds : List (D × D)} : Rep v d → RepKv vs ds → RepKv ((k, v) :: vs) ((kD k, d) :: ds)
inductive RepKt : List (List Key × V) → List (D × D) → Prop
  | nil : RepKt [] []
  | cons {k : List Key} {v : V} {vs : List (List Key × V)} {d : D} {ds : List (D × D)} : Rep v d → RepKt vs ds → RepKt ((k, v) :: vs) ((.tup (k.map kD), d) :: ds)
end
end

section
variable {K : PySem.W.Frag} {q : Qa} {F F' F'' H H' H'' : Hp}

theorem TupF.mono {a : Addr} {vs : List V} (e : Same F F') (h : TupF K F a vs) : TupF K F' a vs := e _ _ h
theorem same_rd {a : Addr} {u : HO} (e : Same F F') (h : Rd F a u) : Rd F' a u := by
  rcases h with h | ⟨o, h⟩
  · exact .inl (e _ _ h)
  · exact .inr ⟨o, e _ _ h⟩
theorem same_sqt {a : Addr} {vs : List V} (e : Same F F') (h : SqT K F a vs) : SqT K F' a vs := by
  rcases h with h | h
  · exact .inl (same_rd e h)
  · exact .inr h
mutual
theorem Rep.mono (e : Same F F') : ∀ {v : V} {d : D}, Rep K q F v d → Rep K q F' v d
  | _, _, .non => .non
  | _, _, .bl b => .bl b
  | _, _, .int i => .int i
  | _, _, .str x => .str x
  | _, _, .tup h r => .tup (TupF.mono e h) (Reps.mono e r)
  | _, _, .lst h r => .lst (e _ _ h) (Reps.mono e r)
  | _, _, .dic h r => .dic (e _ _ h) (RepKv.mono e r)
  | _, _, .dit h r => .dit (e _ _ h) (RepKt.mono e r)
  | _, _, .tok h => .tok h
theorem Reps.mono (e : Same F F') : ∀ {v : List V} {d : List D}, Reps K q F v d → Reps K q F' v d
  | _, _, .nil => .nil
  | _, _, .cons h r => .cons (Rep.mono e h) (Reps.mono e r)
theorem RepKv.mono (e : Same F F') : ∀ {v : List (Key × V)} {d : List (D × D)}, RepKv K q F v d → RepKv K q F' v d
  | _, _, .nil => .nil
  | _, _, .cons h r => .cons (Rep.mono e h) (RepKv.mono e r)
theorem RepKt.mono (e : Same F F') : ∀ {v : List (List Key × V)} {d : List (D × D)}, RepKt K q F v d → RepKt K q F' v d
  | _, _, .nil => .nil
  | _, _, .cons h r => .cons (Rep.mono e h) (RepKt.mono e r)
end
theorem Reps.length : ∀ {v : List V} {d : List D}, Reps K q F v d → v.length = d.length
  | _, _, .nil => rfl
  | _, _, .cons _ r => congrArg (· + 1) (Reps.length r)
theorem Reps.append : ∀ {v w : List V} {d e : List D}, Reps K q F v d → Reps K q F w e → Reps K q F (v ++ w) (d ++ e)
  | _, _, _, _, .nil, s => s
  | _, _, _, _, .cons h r, s => .cons h (Reps.append r s)
theorem Reps.get : ∀ {v : List V} {d : List D} {i : Nat} {x : D}, Reps K q F v d → d[i]? = some x → ∃ u, v[i]? = some u ∧ Rep K q F u x
  | _, _, i, x, .nil, e => by simp at e
  | _, _, 0, x, .cons h r, e => by simp at e; subst e; exact ⟨_, rfl, h⟩
  | _, _, i + 1, x, .cons h r, e => by
    obtain ⟨u, h1, h2⟩ := Reps.get (i := i) (x := x) r (by simpa using e)
    exact ⟨u, by simpa using h1, h2⟩
theorem Reps.getV : ∀ {v : List V} {d : List D} {i : Nat} {u : V}, Reps K q F v d → v[i]? = some u → ∃ x, d[i]? = some x ∧ Rep K q F u x
  | _, _, i, x, .nil, e => by simp at e
  | _, _, 0, x, .cons h r, e => by simp at e; subst e; exact ⟨_, rfl, h⟩
  | _, _, i + 1, x, .cons h r, e => by
    obtain ⟨u, h1, h2⟩ := Reps.getV (i := i) (u := x) r (by simpa using e)
    exact ⟨u, by simpa using h1, h2⟩
theorem Reps.take : ∀ (n : Nat) {v : List V} {d : List D}, Reps K q F v d → Reps K q F (v.take n) (d.take n)
  | 0, _, _, _ => by rw [List.take_zero, List.take_zero]; exact .nil
  | _ + 1, _, _, .nil => .nil
  | n + 1, _, _, .cons h r => .cons h (Reps.take n r)
theorem Reps.drop : ∀ (n : Nat) {v : List V} {d : List D}, Reps K q F v d → Reps K q F (v.drop n) (d.drop n)
  | 0, _, _, h => h
  | _ + 1, _, _, .nil => .nil
  | n + 1, _, _, .cons h r => Reps.drop n r
theorem Reps.set : ∀ (n : Nat) {v : List V} {d : List D} {u : V} {x : D}, Reps K q F v d → Rep K q F u x → Reps K q F (v.set n u) (d.set n x)
  | _, _, _, _, _, .nil, _ => .nil
  | 0, _, _, _, _, .cons h r, e => .cons e r
  | n + 1, _, _, _, _, .cons h r, e => .cons h (Reps.set n r e)
theorem Reps.reverse {v : List V} {d : List D} (h : Reps K q F v d) : Reps K q F v.reverse d.reverse := by
  induction h using Reps.rec (motive_1 := fun _ _ _ => True) (motive_3 := fun _ _ _ => True) (motive_4 := fun _ _ _ => True) with
  | nil => exact .nil
  | cons h r _ ih => rw [List.reverse_cons, List.reverse_cons]; exact ih.append (.cons h .nil)
  | _ => trivial
theorem Reps.eraseIdx : ∀ (n : Nat) {v : List V} {d : List D}, Reps K q F v d → Reps K q F (v.eraseIdx n) (d.eraseIdx n)
  | _, _, _, .nil => .nil
  | 0, _, _, .cons h r => r
  | n + 1, _, _, .cons h r => .cons h (Reps.eraseIdx n r)
theorem Reps.rep {v : List V} {d : List D} (h : Reps K q F v d) : ∀ k : Nat, Reps K q F (List.replicate k v).flatten (List.replicate k d).flatten
  | 0 => .nil
  | k + 1 => by
    rw [List.replicate_succ, List.replicate_succ, List.flatten_cons, List.flatten_cons]
    exact h.append (Reps.rep h k)
theorem reps_ints : ∀ ns : List Int, Reps K q F (ns.map V.int) (ns.map D.int)
  | [] => .nil
  | n :: ns => .cons (.int n) (reps_ints ns)
/-- ints behind data -/
def intsOf : List D → Option (List Int)
  | [] => some []
  | .int i :: r => (intsOf r).map (i :: ·)
  | _ :: _ => none
theorem intsOf_map (ns : List Int) : intsOf (ns.map D.int) = some ns := by
  induction ns with
  | nil => rfl
  | cons n ns ih => simp only [List.map_cons, intsOf, ih, Option.map_some]
theorem intsOf_eq : ∀ {ds : List D} {ns : List Int}, intsOf ds = some ns → ds = ns.map D.int
  | [], ns, h => by simp only [intsOf, Option.some.injEq] at h; subst h; rfl
  | .int i :: r, ns, h => by
    simp only [intsOf, Option.map_eq_some_iff] at h
    obtain ⟨m, h1, rfl⟩ := h
    rw [intsOf_eq h1]; rfl
  | .non :: _, ns, h | .bl _ :: _, ns, h | .str _ :: _, ns, h | .tup _ :: _, ns, h | .lst _ :: _, ns, h | .dic _ _ :: _, ns, h | .tok :: _, ns, h => by simp [intsOf] at h
theorem Reps.ints {vs : List V} : ∀ {ns : List Int}, Reps K q F vs (ns.map D.int) → vs = ns.map V.int := by
  intro ns
  induction ns generalizing vs with
  | nil => intro h; cases h; rfl
  | cons n ns ih =>
    intro h
    cases h with
    | cons h r => cases h; rw [ih r]; rfl
/-- booleans behind data -/
def bolsOf : List D → Option (List Bool)
  | [] => some []
  | .bl i :: r => (bolsOf r).map (i :: ·)
  | _ :: _ => none
theorem bolsOf_eq : ∀ {ds : List D} {ns : List Bool}, bolsOf ds = some ns → ds = ns.map D.bl
  | [], ns, h => by simp only [bolsOf, Option.some.injEq] at h; subst h; rfl
  | .bl i :: r, ns, h => by
    simp only [bolsOf, Option.map_eq_some_iff] at h
    obtain ⟨m, h1, rfl⟩ := h
    rw [bolsOf_eq h1]; rfl
  | .non :: _, ns, h | .int _ :: _, ns, h | .str _ :: _, ns, h | .tup _ :: _, ns, h | .lst _ :: _, ns, h | .dic _ _ :: _, ns, h | .tok :: _, ns, h => by simp [bolsOf] at h
theorem bolsOf_map (ns : List Bool) : bolsOf (ns.map D.bl) = some ns := by
  induction ns with
  | nil => rfl
  | cons n ns ih => simp only [List.map_cons, bolsOf, ih, Option.map_some]
theorem Reps.bols {vs : List V} : ∀ {ns : List Bool}, Reps K q F vs (ns.map D.bl) → vs = ns.map V.bl := by
  intro ns
  induction ns generalizing vs with
  | nil => intro h; cases h; rfl
  | cons n ns ih =>
    intro h
    cases h with
    | cons h r => cases h; rw [ih r]; rfl
end

/-! ### worlds -/
def OraR (q : Qa) (F H : Hp) (ω : Ora) : Prop := (∀ p, q.p = some p → p.1 ≠ p.2 ∧ F p.1 = none ∧ F p.2 = none ∧ H p.1 = some (.lst [.ref p.2, .int ω.2]) ∧ H p.2 = some (.lst (ω.1.map V.int))) ∧ ∀ a, q.T a → F a = none ∧ GxR.TabG H a
theorem ora_at {q : Qa} {F H F' H' : Hp} {ω : Ora} (o : OraR q F H ω) (hF : ∀ a, ¬ Qfree q a → F' a = F a) (hH : ∀ a, ¬ Qfree q a → H' a = H a) : OraR q F' H' ω :=
  ⟨fun p e => by
    obtain ⟨h1, h2, h3, h4, h5⟩ := o.1 p e
    have n1 : ¬ Qfree q p.1 := fun z => (z.1 p e).1 rfl
    have n2 : ¬ Qfree q p.2 := fun z => (z.1 p e).2 rfl
    exact ⟨h1, by rw [hF _ n1]; exact h2, by rw [hF _ n2]; exact h3, by rw [hH _ n1]; exact h4, by rw [hH _ n2]; exact h5⟩, fun a ha => by
    have n : ¬ Qfree q a := fun z => z.2 ha
    obtain ⟨h1, ps, h2, h3⟩ := o.2 a ha
    exact ⟨by rw [hF _ n]; exact h1, ps, by rw [hH _ n]; exact h2, h3⟩⟩
theorem ora_updF {q : Qa} {F H : Hp} {ω : Ora} {p : Addr} {u : HO} (o : OraR q F H ω) (qf : Qfree q p) : OraR q (upd F p u) H ω := ora_at o (fun a n => upd_ne fun z => n (by rw [z]; exact qf)) fun _ _ => rfl
theorem ora_updH {q : Qa} {F H : Hp} {ω : Ora} {p : Addr} {u : HO} (o : OraR q F H ω) (qf : Qfree q p) : OraR q F (upd H p u) ω := ora_at o (fun _ _ => rfl) fun a n => upd_ne fun z => n (by rw [z]; exact qf)
/-- what is not free stands in the heap, not in the frozen part -/
theorem ora_non {q : Qa} {F H : Hp} {ω : Ora} (o : OraR q F H ω) {a : Addr} (n : ¬ Qfree q a) : F a = none ∧ H a ≠ none := by
  by_cases t : q.T a
  · obtain ⟨h1, ps, h2, _⟩ := o.2 a t
    exact ⟨h1, by rw [h2]; exact (fun z => nomatch z)⟩
  · cases e : q.p with
    | none => exact (n ⟨fun p h => (by rw [e] at h; cases h), t⟩).elim
    | some p =>
      obtain ⟨h1, h2, h3, h4, h5⟩ := o.1 p e
      by_cases z1 : a = p.1
      · subst z1; exact ⟨h2, by rw [h4]; exact (fun z => nomatch z)⟩
      · by_cases z2 : a = p.2
        · subst z2; exact ⟨h3, by rw [h5]; exact (fun z => nomatch z)⟩
        · exact (n ⟨fun p' h => (by rw [e] at h; cases h; exact ⟨z1, z2⟩), t⟩).elim
/-- from the frozen F0 in H0 to the frozen F in H -/
structure Post (q : Qa) (F0 H0 F H : Hp) (ω : Ora) : Prop where
  le0 : Same F0 F
  new : ∀ a, Mut (H0 a) → F a = F0 a
  le : Same F H
  kept : ∀ a o, H0 a = some o → Qfree q a → H a = some o
  ora : OraR q F H ω
section
variable {q : Qa} {F0 H0 F H F' H' F'' H'' : Hp} {ω ω' : Ora}
theorem Post.self (p : Post q F0 H0 F H ω) : Post q F H F H ω := ⟨.refl F, fun _ _ => rfl, p.le, fun _ _ h _ => h, p.ora⟩
theorem Post.mk0 (h : Same F H) (o : OraR q F H ω) : Post q F H F H ω := ⟨.refl F, fun _ _ => rfl, h, fun _ _ h _ => h, o⟩
theorem Post.some_of (p : Post q F0 H0 F H ω) {a : Addr} (h : H0 a ≠ none) (qf : Qfree q a) : H a ≠ none := by
  cases e : H0 a with
  | none => exact absurd e h
  | some o => rw [p.kept a o e qf]; exact fun z => nomatch z
theorem mut_ne {u : Option HO} (h : Mut u) : u ≠ none := fun z => by rw [z] at h; exact h
theorem Post.mut_of (p : Post q F0 H0 F H ω) {a : Addr} (h : Mut (H0 a)) (qf : Qfree q a) : Mut (H a) := by
  cases e : H0 a with
  | none => rw [e] at h; exact h.elim
  | some o => rw [p.kept a o e qf, ← e]; exact h
theorem qfree_none (h : OraR q F H ω) {a : Addr} (e : H a = none) : Qfree q a := Classical.byContradiction fun n => (ora_non h n).2 e
theorem qdec (q : Qa) (a : Addr) : Qfree q a ∨ ¬ Qfree q a := Classical.em _
theorem Post.trans (a : Post q F0 H0 F H ω) (b : Post q F H F' H' ω') : Post q F0 H0 F' H' ω' where
  le0 := a.le0.trans b.le0
  new := fun x hx => by
    rcases qdec q x with qf | n
    · rw [b.new x (a.mut_of hx qf), a.new x hx]
    · rw [(ora_non b.ora n).1, ← a.new x hx, (ora_non a.ora n).1]
  le := b.le
  kept := fun x o h qf => b.kept x o (a.kept x o h qf) qf
  ora := b.ora
theorem ora_same (h : OraR q F H ω) (hF : ∀ a, H a ≠ none → F' a = F a) (hH : ∀ a o, H a = some o → H' a = some o) : OraR q F' H' ω :=
  ora_at h (fun a n => hF a (ora_non h n).2) fun a n => by
    cases e : H a with
    | none => exact absurd e (ora_non h n).2
    | some o => rw [hH a o e]
theorem same_new {p : Addr} {o : HO} (h : H p = none) : Same H (upd H p o) := fun b x e => by
  rw [upd_ne (ne_of_none e h)]; exact e
theorem same_none (h : Same F H) {a : Addr} (e : H a = none) : F a = none := by
  cases q : F a with
  | none => rfl
  | some o => rw [h a o q] at e; cases e
theorem same_upd2 (h : Same F H) {p : Addr} {o : HO} : Same (upd F p o) (upd H p o) := fun b x e => by
  by_cases hb : b = p
  · subst hb; rw [upd_same] at e ⊢; exact e
  · rw [upd_ne hb] at e ⊢; exact h b x e
/-- a new object, frozen -/
theorem Post.alloc (h : Same F H) (o : OraR q F H ω) {p : Addr} {u : HO} (hp : H p = none) : Post q F H (upd F p u) (upd H p u) ω where
  le0 := same_new (same_none h hp)
  new := fun a ha => upd_ne fun z => by subst z; exact mut_ne ha hp
  le := same_upd2 h
  kept := fun a x e _ => same_new hp a x e
  ora := ora_same o (fun a ha => upd_ne fun z => by subst z; exact ha hp) fun a x e => same_new hp a x e
/-- a new object, not frozen -/
theorem Post.fresh (h : Same F H) (o : OraR q F H ω) {p : Addr} {u : HO} (hp : H p = none) : Post q F H F (upd H p u) ω where
  le0 := .refl F
  new := fun _ _ => rfl
  le := h.trans (same_new hp)
  kept := fun a x e _ => same_new hp a x e
  ora := ora_same o (fun _ _ => rfl) fun a x e => same_new hp a x e
/-- freezing what is new -/
theorem Post.freeze (b : Post q F H F' H' ω') (o : OraR q F H ω) {p : Addr} {u : HO} (hp : H p = none) (hu : H' p = some u) : Post q F H (upd F' p u) H' ω' where
  le0 := fun a x e => by
    by_cases z : a = p
    · subst z
      have := b.le0 a x e
      have := b.le a x this
      rw [upd_same, ← this, ← hu]
    · rw [upd_ne z]; exact b.le0 a x e
  new := fun a ha => by rw [upd_ne fun z => by subst z; exact mut_ne ha hp]; exact b.new a ha
  le := fun a x e => by
    by_cases z : a = p
    · subst z; rw [upd_same] at e; rw [hu]; exact e
    · rw [upd_ne z] at e; exact b.le a x e
  kept := b.kept
  ora := ora_updF b.ora (qfree_none o hp)
end

/-! ### slots -/
/-- unknown, frozen data, an own list or dict, an own tree: n levels of own lists over own lists -/
inductive SV where
  | un | d (x : D) | o (x : D) | t (n : Nat) (x : D)
abbrev Env := List SV
def nth : Env → Nat → SV
  | [], _ => .un
  | x :: _, 0 => x
  | _ :: r, n + 1 => nth r n
def sset : Env → Nat → SV → Env
  | [], _, _ => []
  | _ :: r, 0, y => y :: r
  | x :: r, n + 1, y => x :: sset r n y
theorem sset_length : ∀ (ρ : Env) (i : Nat) (y : SV), (sset ρ i y).length = ρ.length
  | [], _, _ => rfl
  | _ :: _, 0, _ => rfl
  | _ :: r, n + 1, y => congrArg (· + 1) (sset_length r n y)
theorem nth_sset : ∀ (ρ : Env) (i j : Nat) (y : SV), nth (sset ρ i y) j = if j = i then (if i < ρ.length then y else .un) else nth ρ j
  | [], i, j, y => by cases j <;> simp [sset, nth]
  | x :: r, 0, 0, y => by simp [sset, nth]
  | x :: r, 0, j + 1, y => by simp [sset, nth]
  | x :: r, i + 1, 0, y => by simp [sset, nth]
  | x :: r, i + 1, j + 1, y => by
    simp only [sset, nth, nth_sset r i j y, Nat.add_right_cancel_iff, List.length_cons, Nat.add_lt_add_iff_right]
theorem nth_ge : ∀ {ρ : Env} {i : Nat}, ρ.length ≤ i → nth ρ i = .un
  | [], _, _ => rfl
  | _ :: r, 0, h => by simp at h
  | _ :: r, n + 1, h => nth_ge (ρ := r) (by simpa using h)

structure Ctx where
  q : Qa
  F0 : Hp
  H0 : Hp

def isDic : D → Bool
  | .dic _ _ => true
  | _ => false
def OwnR (K : PySem.W.Frag) (q : Qa) (F H : Hp) (p : Addr) : D → Prop
  | .lst ds => ∃ vs, H p = some (.lst vs) ∧ Reps K q F vs ds
  | .dic false kvs => ∃ kv, H p = some (.dK kv) ∧ RepKv K q F kv kvs
  | .dic true kvs => ∃ kv, H p = some (.dT kv) ∧ RepKt K q F kv kvs
  | _ => False
theorem OwnR.cases' {K : PySem.W.Frag} {q : Qa} {F H : Hp} {p : Addr} {d : D} (h : OwnR K q F H p d) : (∃ ds, d = .lst ds) ∨ (∃ kvs, d = .dic false kvs) ∨ ∃ kvs, d = .dic true kvs := by
  cases d with
  | lst ds => exact .inl ⟨_, rfl⟩
  | dic t kvs => cases t; exact .inr (.inl ⟨_, rfl⟩); exact .inr (.inr ⟨_, rfl⟩)
  | _ => exact h.elim
theorem OwnR.there {K : PySem.W.Frag} {q : Qa} {F H : Hp} {p : Addr} {d : D} (h : OwnR K q F H p d) : H p ≠ none := by
  rcases h.cases' with ⟨ds, rfl⟩ | ⟨kvs, rfl⟩ | ⟨kvs, rfl⟩
  · obtain ⟨vs, e, _⟩ := h; rw [e]; exact fun z => nomatch z
  · obtain ⟨vs, e, _⟩ := h; rw [e]; exact fun z => nomatch z
  · obtain ⟨vs, e, _⟩ := h; rw [e]; exact fun z => nomatch z
theorem OwnR.mut {K : PySem.W.Frag} {q : Qa} {F H : Hp} {p : Addr} {d : D} (h : OwnR K q F H p d) : Mut (H p) := by
  rcases h.cases' with ⟨ds, rfl⟩ | ⟨kvs, rfl⟩ | ⟨kvs, rfl⟩
  · obtain ⟨vs, e, _⟩ := h; rw [e]; exact trivial
  · obtain ⟨vs, e, _⟩ := h; rw [e]; exact trivial
  · obtain ⟨vs, e, _⟩ := h; rw [e]; exact trivial
theorem OwnR.mono {K : PySem.W.Frag} {q : Qa} {F H F' H' : Hp} {p : Addr} {d : D} (h : OwnR K q F H p d) (e : Same F F') (k : ∀ o, H p = some o → H' p = some o) : OwnR K q F' H' p d := by
  rcases h.cases' with ⟨ds, rfl⟩ | ⟨kvs, rfl⟩ | ⟨kvs, rfl⟩
  · obtain ⟨vs, e1, r⟩ := h; exact ⟨vs, k _ e1, r.mono e⟩
  · obtain ⟨vs, e1, r⟩ := h; exact ⟨vs, k _ e1, r.mono e⟩
  · obtain ⟨vs, e1, r⟩ := h; exact ⟨vs, k _ e1, r.mono e⟩
/-- frozen, it is data -/
theorem OwnR.rep {K : PySem.W.Frag} {q : Qa} {F H : Hp} {p : Addr} {d : D} (h : OwnR K q F H p d) (hp : F p = none) (nd : isDic d = false) : ∃ u, H p = some u ∧ Rep K q (upd F p u) (.ref p) d := by
  have s : ∀ u, Same F (upd F p u) := fun u => same_new hp
  cases d with
  | lst ds => obtain ⟨vs, e, r⟩ := h; exact ⟨_, e, .lst upd_same (r.mono (s _))⟩
  | dic t kvs => cases nd
  | _ => exact h.elim
/-- a dict is frozen and locked -/
theorem OwnR.lock {K : PySem.W.Frag} {q : Qa} {F H : Hp} {p : Addr} {d : D} (h : OwnR K q F H p d) (hp : F p = none) (nd : isDic d = true) : ∃ u, H p = some u ∧ Mut (some u) ∧ ∀ od, Rep K q (upd F p (.frz od u)) (.ref p) d := by
  have s : ∀ u, Same F (upd F p u) := fun u => same_new hp
  rcases h.cases' with ⟨ds, rfl⟩ | ⟨kvs, rfl⟩ | ⟨kvs, rfl⟩
  · cases nd
  · obtain ⟨vs, e, r⟩ := h; exact ⟨_, e, trivial, fun od => .dic upd_same (r.mono (s _))⟩
  · obtain ⟨vs, e, r⟩ := h; exact ⟨_, e, trivial, fun od => .dit upd_same (r.mono (s _))⟩
/-- what is new is frozen and locked -/
theorem Post.lock {q : Qa} {F H F' H' : Hp} {ω ω' : Ora} (b : Post q F H F' H' ω') (o : OraR q F H ω) {p : Addr} (hp : H p = none) (hf : F' p = none) (u : HO) : Post q F H (upd F' p u) (upd H' p u) ω' where
  le0 := b.le0.trans (same_new hf)
  new := fun a ha => by rw [upd_ne fun z => by subst z; exact mut_ne ha hp]; exact b.new a ha
  le := fun a x e => by
    by_cases z : a = p
    · subst z; rw [upd_same] at e ⊢; exact e
    · rw [upd_ne z] at e ⊢; exact b.le a x e
  kept := fun a x e qf => by rw [upd_ne fun z => by subst z; rw [hp] at e; cases e]; exact b.kept a x e qf
  ora := ora_updH (ora_updF b.ora (qfree_none o hp)) (qfree_none o hp)

structure Own (K : PySem.W.Frag) (c : Ctx) (F H : Hp) (p : Addr) (x : D) : Prop where
  f : F p = none
  h0 : c.H0 p = none
  qf : Qfree c.q p
  r : OwnR K c.q F H p x
/-! ### trees of own lists -/
section
variable (K : PySem.W.Frag) (q : Qa) (H0 F H : Hp)
/-- what holds of each list of a tree -/
structure TOk (p : Addr) : Prop where
  f : F p = none
  h0 : H0 p = none
  qf : Qfree q p
mutual
inductive TreeA : Nat → V → D → List Addr → Prop
  | leaf {p : Addr} {vs : List V} {ds : List D} : H p = some (.lst vs) → Reps K q F vs ds → TOk q H0 F p → TreeA 0 (.ref p) (.lst ds) [p]
  | node {n : Nat} {p : Addr} {vs : List V} {ds : List D} {A : List Addr} : H p = some (.lst vs) → TreesA n vs ds A → p ∉ A → TOk q H0 F p → TreeA (n + 1) (.ref p) (.lst ds) (p :: A)
inductive TreesA : Nat → List V → List D → List Addr → Prop
  | nil {n : Nat} : TreesA n [] [] []
  | cons {n : Nat} {v : V} {vs : List V} {d : D} {ds : List D} {A B : List Addr} : TreeA n v d A → TreesA n vs ds B → (∀ a ∈ A, a ∉ B) → TreesA n (v :: vs) (d :: ds) (A ++ B)
end
end
section
variable {K : PySem.W.Frag} {q : Qa} {H0 F H F' H' : Hp}
mutual
theorem TreeA.own : ∀ {n : Nat} {v : V} {d : D} {A : List Addr}, TreeA K q H0 F H n v d A → ∀ a ∈ A, TOk q H0 F a ∧ Mut (H a)
  | _, _, _, _, .leaf h _ t, a, ha => by
    rw [List.mem_singleton] at ha; subst ha; exact ⟨t, by rw [h]; trivial⟩
  | _, _, _, _, .node h r _ t, a, ha => by
    rcases List.mem_cons.mp ha with e | ha
    · subst e; exact ⟨t, by rw [h]; trivial⟩
    · exact TreesA.own r a ha
theorem TreesA.own : ∀ {n : Nat} {v : List V} {d : List D} {A : List Addr}, TreesA K q H0 F H n v d A → ∀ a ∈ A, TOk q H0 F a ∧ Mut (H a)
  | _, _, _, _, .nil, a, ha => by cases ha
  | _, _, _, _, .cons h r _, a, ha => by
    rcases List.mem_append.mp ha with ha | ha
    · exact TreeA.own h a ha
    · exact TreesA.own r a ha
end
mutual
theorem TreeA.mono (e : Same F F') : ∀ {n : Nat} {v : V} {d : D} {A : List Addr}, TreeA K q H0 F H n v d A → (∀ a ∈ A, H' a = H a ∧ F' a = none) → TreeA K q H0 F' H' n v d A
  | _, _, _, _, .leaf h r t, k => .leaf (by rw [(k _ (by simp)).1]; exact h) (r.mono e) ⟨(k _ (by simp)).2, t.h0, t.qf⟩
  | _, _, _, _, .node h r m t, k => .node (by rw [(k _ (by simp)).1]; exact h) (TreesA.mono e r fun a ha => k a (by simp [ha])) m ⟨(k _ (by simp)).2, t.h0, t.qf⟩
theorem TreesA.mono (e : Same F F') : ∀ {n : Nat} {v : List V} {d : List D} {A : List Addr}, TreesA K q H0 F H n v d A → (∀ a ∈ A, H' a = H a ∧ F' a = none) → TreesA K q H0 F' H' n v d A
  | _, _, _, _, .nil, _ => .nil
  | _, _, _, _, .cons h r m, k => .cons (TreeA.mono e h fun a ha => k a (by simp [ha])) (TreesA.mono e r fun a ha => k a (by simp [ha])) m
end
end
/-- the trees of a world, each with its lists -/
structure WT (K : PySem.W.Frag) (c : Ctx) (F H : Hp) (σ : L2.St) (ρ : Env) : Prop where
  ex : ∃ fp : Nat → List Addr, (∀ i n x, nth ρ i = .t n x → ∃ p, σ[i]? = some (some (.ref p)) ∧ TreeA K c.q c.H0 F H n (.ref p) x (fp i)) ∧
    (∀ i n x j y q, nth ρ i = .t n x → nth ρ j = .o y → σ[j]? = some (some (.ref q)) → q ∉ fp i) ∧
    ∀ i j n m x y, i ≠ j → nth ρ i = .t n x → nth ρ j = .t m y → ∀ a ∈ fp i, a ∉ fp j
theorem WT.no {K : PySem.W.Frag} {c : Ctx} {F H : Hp} {σ : L2.St} {ρ : Env} (h : ∀ i n x, nth ρ i ≠ .t n x) : WT K c F H σ ρ := ⟨fun _ => [], fun i n x e => absurd e (h i n x), fun i n x _ _ _ e => absurd e (h i n x), fun i _ n _ x _ _ e => absurd e (h i n x)⟩
theorem WT.mono {K : PySem.W.Frag} {c c' : Ctx} {F H F' H' : Hp} {σ σ' : L2.St} {ρ ρ' : Env} (w : WT K c F H σ ρ) (hq : c'.q = c.q) (h0 : c'.H0 = c.H0) (ht : ∀ i n x, nth ρ' i = .t n x → nth ρ i = .t n x ∧ σ'[i]? = σ[i]?)
    (ho : ∀ j y q, nth ρ' j = .o y → σ'[j]? = some (some (.ref q)) → (∃ j' y', nth ρ j' = .o y' ∧ σ[j']? = some (some (.ref q))) ∨ H q = none) (sF : Same F F')
    (hh : ∀ a, TOk c.q c.H0 F a → Mut (H a) → (∀ j y, nth ρ j = .o y → σ[j]? ≠ some (some (.ref a))) → H' a = H a ∧ F' a = none) : WT K c' F' H' σ' ρ' := by
  obtain ⟨fp, h1, h2, h3⟩ := w.ex
  refine ⟨fp, fun i n x e => ?_, fun i n x j y q e ej es hm => ?_, fun i j n m x y hij e1 e2 => h3 i j n m x y hij (ht _ _ _ e1).1 (ht _ _ _ e2).1⟩
  · obtain ⟨e1, e2⟩ := ht i n x e
    obtain ⟨p, g1, g2⟩ := h1 i n x e1
    rw [hq, h0]
    exact ⟨p, e2.trans g1, g2.mono sF fun a ha => hh a (g2.own a ha).1 (g2.own a ha).2 fun j y ej es => h2 i n x j y a e1 ej es ha⟩
  · obtain ⟨e1, e2⟩ := ht i n x e
    obtain ⟨p, g1, g2⟩ := h1 i n x e1
    rcases ho j y q ej es with ⟨j', y', a, b⟩ | hn
    · exact h2 i n x j' y' q e1 a b hm
    · exact mut_ne (g2.own q hm).2 hn
/-- slots change, the heap does not -/
theorem WT.slots {K : PySem.W.Frag} {c : Ctx} {F H : Hp} {σ σ' : L2.St} {ρ ρ' : Env} (w : WT K c F H σ ρ) (ht : ∀ i n x, nth ρ' i = .t n x → nth ρ i = .t n x ∧ σ'[i]? = σ[i]?)
    (ho : ∀ j y, nth ρ' j = .o y → nth ρ j = .o y ∧ σ'[j]? = σ[j]?) : WT K c F H σ' ρ' :=
  w.mono rfl rfl ht (fun j y q e es => .inl ⟨j, y, (ho j y e).1, by rw [← (ho j y e).2]; exact es⟩) (.refl F) fun a t _ _ => ⟨rfl, t.f⟩
structure W (K : PySem.W.Frag) (c : Ctx) (F H : Hp) (σ : L2.St) (ρ : Env) (ω : Ora) : Prop where
  post : Post c.q c.F0 c.H0 F H ω
  len : σ.length = ρ.length
  fz : ∀ i x, nth ρ i = .d x → ∃ v, σ[i]? = some (some v) ∧ Rep K c.q F v x
  ow : ∀ i x, nth ρ i = .o x → ∃ p, σ[i]? = some (some (.ref p)) ∧ Own K c F H p x
  dj : ∀ i j x y, i ≠ j → nth ρ i = .o x → nth ρ j = .o y → σ[i]? ≠ σ[j]?
  tb : ∀ P, TblK K P → c.q.T P
  tr : WT K c F H σ ρ

section
variable {K : PySem.W.Frag} {c : Ctx} {F H F' H' : Hp} {σ : L2.St} {ρ : Env} {ω ω' : Ora}
theorem Own.ext {p : Addr} {x : D} (w : Own K c F H p x) (b : Post c.q F H F' H' ω') : Own K c F' H' p x :=
  ⟨by rw [b.new p w.r.mut]; exact w.f, w.h0, w.qf, w.r.mono b.le0 fun o e => b.kept p o e w.qf⟩
theorem W.ext (w : W K c F H σ ρ ω) (b : Post c.q F H F' H' ω') : W K c F' H' σ ρ ω' where
  post := w.post.trans b
  len := w.len
  fz := fun i x e => let ⟨v, h, r⟩ := w.fz i x e; ⟨v, h, r.mono b.le0⟩
  ow := fun i x e => let ⟨p, h, r⟩ := w.ow i x e; ⟨p, h, r.ext b⟩
  dj := w.dj
  tb := w.tb
  tr := w.tr.mono rfl rfl (fun _ _ _ e => ⟨e, rfl⟩) (fun j y q e es => .inl ⟨j, y, e, es⟩) b.le0 fun a t m _ => ⟨by
    cases e : H a with
    | none => rw [e] at m; exact m.elim
    | some o => exact b.kept a o e t.qf, by rw [b.new a m]; exact t.f⟩
theorem W.self (w : W K c F H σ ρ ω) : Post c.q F H F H ω := w.post.self
theorem lt_of_nth {i : Nat} {x : D} (h : nth ρ i = .d x ∨ nth ρ i = .o x) : i < ρ.length := by
  apply Classical.byContradiction
  intro z
  rw [nth_ge (by omega)] at h
  rcases h with h | h <;> cases h
/-- a slot is set to frozen data -/
theorem W.set_d (w : W K c F H σ ρ ω) {v : V} {x : D} (r : Rep K c.q F v x) (i : Nat) : W K c F H (σ.set i (some v)) (sset ρ i (.d x)) ω where
  post := w.post
  len := by rw [List.length_set, sset_length]; exact w.len
  fz := fun j y e => by
    rw [nth_sset] at e
    by_cases h : j = i
    · subst h
      rw [if_pos rfl] at e
      split at e
      · rename_i hl
        cases e
        exact ⟨v, List.getElem?_set_self (by rw [w.len]; exact hl), r⟩
      · cases e
    · rw [if_neg h] at e
      obtain ⟨u, h1, h2⟩ := w.fz j y e
      exact ⟨u, by rw [List.getElem?_set_ne (Ne.symm h)]; exact h1, h2⟩
  ow := fun j y e => by
    rw [nth_sset] at e
    by_cases h : j = i
    · rw [if_pos h] at e; split at e <;> cases e
    · rw [if_neg h] at e
      obtain ⟨u, h1, h2⟩ := w.ow j y e
      exact ⟨u, by rw [List.getElem?_set_ne (Ne.symm h)]; exact h1, h2⟩
  dj := fun j k y z h e1 e2 => by
    rw [nth_sset] at e1 e2
    by_cases h1 : j = i
    · rw [if_pos h1] at e1; split at e1 <;> cases e1
    · by_cases h2 : k = i
      · rw [if_pos h2] at e2; split at e2 <;> cases e2
      · rw [if_neg h1] at e1
        rw [if_neg h2] at e2
        rw [List.getElem?_set_ne (Ne.symm h1), List.getElem?_set_ne (Ne.symm h2)]
        exact w.dj j k y z h e1 e2
  tb := w.tb
  tr := w.tr.slots (fun j n y e => by
    rw [nth_sset] at e
    by_cases h : j = i
    · rw [if_pos h] at e; split at e <;> cases e
    · rw [if_neg h] at e; exact ⟨e, List.getElem?_set_ne (Ne.symm h)⟩) fun j y e => by
    rw [nth_sset] at e
    by_cases h : j = i
    · rw [if_pos h] at e; split at e <;> cases e
    · rw [if_neg h] at e; exact ⟨e, List.getElem?_set_ne (Ne.symm h)⟩
/-- .. to an own object that no other slot holds -/
theorem W.set_o (w : W K c F H σ ρ ω) {p : Addr} {x : D} (r : Own K c F H p x) (i : Nat) (hne : ∀ j y, j ≠ i → nth ρ j = .o y → σ[j]? ≠ some (some (.ref p))) (ht : WT K c F H (σ.set i (some (.ref p))) (sset ρ i (.o x))) : W K c F H (σ.set i (some (.ref p))) (sset ρ i (.o x)) ω where
  post := w.post
  len := by rw [List.length_set, sset_length]; exact w.len
  fz := fun j y e => by
    rw [nth_sset] at e
    by_cases h : j = i
    · rw [if_pos h] at e; split at e <;> cases e
    · rw [if_neg h] at e
      obtain ⟨u, h1, h2⟩ := w.fz j y e
      exact ⟨u, by rw [List.getElem?_set_ne (Ne.symm h)]; exact h1, h2⟩
  ow := fun j y e => by
    rw [nth_sset] at e
    by_cases h : j = i
    · subst h
      rw [if_pos rfl] at e
      split at e
      · rename_i hl
        cases e
        exact ⟨p, List.getElem?_set_self (by rw [w.len]; exact hl), r⟩
      · cases e
    · rw [if_neg h] at e
      obtain ⟨u, h1, h2⟩ := w.ow j y e
      exact ⟨u, by rw [List.getElem?_set_ne (Ne.symm h)]; exact h1, h2⟩
  dj := fun j k y z h e1 e2 => by
    rw [nth_sset] at e1 e2
    by_cases h1 : j = i
    · subst h1
      have h2 : k ≠ j := Ne.symm h
      rw [if_neg h2] at e2
      rw [if_pos rfl] at e1
      split at e1
      · rename_i hl
        rw [List.getElem?_set_self (by rw [w.len]; exact hl), List.getElem?_set_ne h]
        exact Ne.symm (hne k z h2 e2)
      · cases e1
    · rw [if_neg h1] at e1
      by_cases h2 : k = i
      · subst h2
        rw [if_pos rfl] at e2
        split at e2
        · rename_i hl
          rw [List.getElem?_set_self (by rw [w.len]; exact hl), List.getElem?_set_ne (Ne.symm h1)]
          exact hne j y h1 e1
        · cases e2
      · rw [if_neg h2] at e2
        rw [List.getElem?_set_ne (Ne.symm h1), List.getElem?_set_ne (Ne.symm h2)]
        exact w.dj j k y z h e1 e2
  tb := w.tb
  tr := ht
/-- forgetting a slot -/
theorem W.drop (w : W K c F H σ ρ ω) (i : Nat) : W K c F H σ (sset ρ i .un) ω where
  post := w.post
  len := by rw [sset_length]; exact w.len
  fz := fun j y e => by
    rw [nth_sset] at e
    by_cases h : j = i
    · rw [if_pos h] at e; split at e <;> cases e
    · rw [if_neg h] at e; exact w.fz j y e
  ow := fun j y e => by
    rw [nth_sset] at e
    by_cases h : j = i
    · rw [if_pos h] at e; split at e <;> cases e
    · rw [if_neg h] at e; exact w.ow j y e
  dj := fun j k y z h e1 e2 => by
    rw [nth_sset] at e1 e2
    by_cases h1 : j = i
    · rw [if_pos h1] at e1; split at e1 <;> cases e1
    · by_cases h2 : k = i
      · rw [if_pos h2] at e2; split at e2 <;> cases e2
      · rw [if_neg h1] at e1
        rw [if_neg h2] at e2
        exact w.dj j k y z h e1 e2
  tb := w.tb
  tr := w.tr.slots (fun j n y e => by
    rw [nth_sset] at e
    by_cases h : j = i
    · rw [if_pos h] at e; split at e <;> cases e
    · rw [if_neg h] at e; exact ⟨e, rfl⟩) fun j y e => by
    rw [nth_sset] at e
    by_cases h : j = i
    · rw [if_pos h] at e; split at e <;> cases e
    · rw [if_neg h] at e; exact ⟨e, rfl⟩
/-- a new object is no slot's -/
theorem W.fresh_ne (w : W K c F H σ ρ ω) {p : Addr} (hp : H p = none) : ∀ j y, nth ρ j = .o y → σ[j]? ≠ some (some (.ref p)) := fun j y e z => by
  obtain ⟨p', h1, h2⟩ := w.ow j y e
  rw [h1] at z
  cases z
  exact h2.r.there hp
/-- slots that hold new objects -/
theorem W.news (w : W K c F H σ ρ ω) (b : Post c.q F H F' H' ω') {σ' : L2.St} {ρ' : Env} (ht : ∀ i n x, nth ρ' i = .t n x → nth ρ i = .t n x ∧ σ'[i]? = σ[i]?)
    (ho : ∀ j y q, nth ρ' j = .o y → σ'[j]? = some (some (.ref q)) → (nth ρ j = .o y ∧ σ'[j]? = σ[j]?) ∨ H q = none) : WT K c F' H' σ' ρ' :=
  w.tr.mono rfl rfl ht (fun j y q e es => (ho j y q e es).elim (fun h => .inl ⟨j, y, h.1, by rw [← h.2]; exact es⟩) .inr) b.le0 fun a t m _ => ⟨by
    cases e : H a with
    | none => rw [e] at m; exact m.elim
    | some o => exact b.kept a o e t.qf, by rw [b.new a m]; exact t.f⟩
theorem W.new_o (w : W K c F H σ ρ ω) (b : Post c.q F H F' H' ω') {p : Addr} (hp : H p = none) (i : Nat) (x : D) : WT K c F' H' (σ.set i (some (.ref p))) (sset ρ i (.o x)) :=
  w.news b (fun j n y e => by
    rw [nth_sset] at e
    by_cases h : j = i
    · rw [if_pos h] at e; split at e <;> cases e
    · rw [if_neg h] at e; exact ⟨e, List.getElem?_set_ne (Ne.symm h)⟩) fun j y q e es => by
    rw [nth_sset] at e
    by_cases h : j = i
    · subst h
      right
      have hl : j < σ.length := by
        have := (List.getElem?_eq_some_iff.mp es).1
        rw [List.length_set] at this; exact this
      rw [List.getElem?_set_self hl] at es
      cases es; exact hp
    · rw [if_neg h] at e; exact .inl ⟨e, List.getElem?_set_ne (Ne.symm h)⟩
theorem W.h0_none (w : W K c F H σ ρ ω) {p : Addr} (hp : H p = none) : c.H0 p = none := by
  cases e : c.H0 p with
  | none => rfl
  | some o =>
    rw [w.post.kept p o e (qfree_none w.post.ora hp)] at hp
    cases hp
/-- an own object is changed -/
theorem W.write (w : W K c F H σ ρ ω) {i : Nat} {p : Addr} {x y : D} {u : HO} (e : nth ρ i = .o x) (hs : σ[i]? = some (some (.ref p))) (hy : OwnR K c.q F (upd H p u) p y) :
    W K c F (upd H p u) σ (sset ρ i (.o y)) ω := by
  obtain ⟨p', h1, ho⟩ := w.ow i x e
  rw [hs] at h1
  cases h1
  have sF : Same F (upd H p u) := fun a o h => by
    rw [upd_ne fun z => by subst z; rw [ho.f] at h; cases h]
    exact w.post.le a o h
  have hl : i < ρ.length := lt_of_nth (.inr e)
  refine ⟨⟨w.post.le0, w.post.new, sF, fun a o h qf => ?_, ora_updH w.post.ora ho.qf⟩, by rw [sset_length]; exact w.len, fun j z ej => ?_, fun j z ej => ?_, fun j k z z' h e1 e2 => ?_, w.tb, w.tr.mono rfl rfl (fun j n z ej => by
    rw [nth_sset] at ej
    by_cases h : j = i
    · rw [if_pos h] at ej; split at ej <;> cases ej
    · rw [if_neg h] at ej; exact ⟨ej, rfl⟩) (fun j z q ej es => by
    rw [nth_sset] at ej
    by_cases h : j = i
    · subst h; exact .inl ⟨j, x, e, es⟩
    · rw [if_neg h] at ej; exact .inl ⟨j, z, ej, es⟩) (.refl F) fun a t _ n => ⟨upd_ne fun z => n i x e (by rw [z]; exact hs), t.f⟩⟩
  · rw [upd_ne fun z => by subst z; rw [ho.h0] at h; cases h]
    exact w.post.kept a o h qf
  · rw [nth_sset] at ej
    by_cases h : j = i
    · rw [if_pos h] at ej; split at ej <;> cases ej
    · rw [if_neg h] at ej; exact w.fz j z ej
  · rw [nth_sset] at ej
    by_cases h : j = i
    · subst h
      rw [if_pos rfl, if_pos hl] at ej
      cases ej
      exact ⟨p, hs, ho.f, ho.h0, ho.qf, hy⟩
    · rw [if_neg h] at ej
      obtain ⟨p', g1, g2⟩ := w.ow j z ej
      refine ⟨p', g1, g2.f, g2.h0, g2.qf, g2.r.mono (.refl F) fun o q => ?_⟩
      rw [upd_ne fun z' => ?_]; exact q
      subst z'
      exact w.dj j i z x h ej e (g1.trans hs.symm)
  · rw [nth_sset] at e1 e2
    have n1 : ∃ a, nth ρ j = .o a := by
      by_cases h1 : j = i
      · exact ⟨x, by rw [h1]; exact e⟩
      · rw [if_neg h1] at e1; exact ⟨z, e1⟩
    have n2 : ∃ a, nth ρ k = .o a := by
      by_cases h1 : k = i
      · exact ⟨x, by rw [h1]; exact e⟩
      · rw [if_neg h1] at e2; exact ⟨z', e2⟩
    obtain ⟨a1, n1⟩ := n1
    obtain ⟨a2, n2⟩ := n2
    exact w.dj j k a1 a2 h n1 n2
/-- an own object is frozen -/
theorem W.freeze (w : W K c F H σ ρ ω) {i : Nat} {x : D} (e : nth ρ i = .o x) (nd : isDic x = false) : ∃ F', W K c F' H σ (sset ρ i (.d x)) ω := by
  obtain ⟨p, hs, ho⟩ := w.ow i x e
  obtain ⟨u, hu, rp⟩ := ho.r.rep ho.f nd
  have sF : Same F (upd F p u) := same_new ho.f
  refine ⟨upd F p u, ⟨w.post.le0.trans sF, fun a ha => ?_, fun a o h => ?_, w.post.kept, ora_updF w.post.ora ho.qf⟩, by rw [sset_length]; exact w.len, fun j z ej => ?_, fun j z ej => ?_, fun j k z z' h e1 e2 => ?_, w.tb, w.tr.mono rfl rfl (fun j n z ej => by
    rw [nth_sset] at ej
    by_cases h : j = i
    · rw [if_pos h] at ej; split at ej <;> cases ej
    · rw [if_neg h] at ej; exact ⟨ej, rfl⟩) (fun j z q ej es => by
    rw [nth_sset] at ej
    by_cases h : j = i
    · subst h; exact .inl ⟨j, x, e, es⟩
    · rw [if_neg h] at ej; exact .inl ⟨j, z, ej, es⟩) sF fun a t _ n => ⟨rfl, (upd_ne fun z => n i x e (by rw [z]; exact hs)).trans t.f⟩⟩
  · rw [upd_ne fun z => by subst z; exact mut_ne ha ho.h0]; exact w.post.new a ha
  · by_cases z : a = p
    · subst z; rw [upd_same] at h; rw [hu]; exact h
    · rw [upd_ne z] at h; exact w.post.le a o h
  · rw [nth_sset] at ej
    by_cases h : j = i
    · subst h
      rw [if_pos rfl] at ej
      split at ej
      · cases ej; exact ⟨_, hs, rp⟩
      · cases ej
    · rw [if_neg h] at ej
      obtain ⟨v, g1, g2⟩ := w.fz j z ej
      exact ⟨v, g1, g2.mono sF⟩
  · rw [nth_sset] at ej
    by_cases h : j = i
    · rw [if_pos h] at ej; split at ej <;> cases ej
    · rw [if_neg h] at ej
      obtain ⟨p', g1, g2⟩ := w.ow j z ej
      refine ⟨p', g1, ?_, g2.h0, g2.qf, g2.r.mono sF fun _ q => q⟩
      rw [upd_ne fun z' => ?_]; exact g2.f
      subst z'
      exact w.dj j i z x h ej e (g1.trans hs.symm)
  · rw [nth_sset] at e1 e2
    by_cases h1 : j = i
    · rw [if_pos h1] at e1; split at e1 <;> cases e1
    · by_cases h2 : k = i
      · rw [if_pos h2] at e2; split at e2 <;> cases e2
      · rw [if_neg h1] at e1
        rw [if_neg h2] at e2
        exact w.dj j k z z' h e1 e2
/-- an own dict is frozen and locked -/
theorem W.lock (w : W K c F H σ ρ ω) {i : Nat} {x : D} (e : nth ρ i = .o x) (nd : isDic x = true) : ∃ p u, H p = some u ∧ Mut (some u) ∧ ∀ od, W K c (upd F p (.frz od u)) (upd H p (.frz od u)) σ (sset ρ i (.d x)) ω := by
  obtain ⟨p, hs, ho⟩ := w.ow i x e
  obtain ⟨u, hu, mu, rp⟩ := ho.r.lock ho.f nd
  refine ⟨p, u, hu, mu, fun od => ?_⟩
  have sF : Same F (upd F p (.frz od u)) := same_new ho.f
  refine ⟨⟨w.post.le0.trans sF, fun a ha => ?_, fun a o h => ?_, fun a o h qf => ?_, ora_updH (ora_updF w.post.ora ho.qf) ho.qf⟩, by rw [sset_length]; exact w.len, fun j z ej => ?_, fun j z ej => ?_, fun j k z z' h e1 e2 => ?_, w.tb, w.tr.mono rfl rfl (fun j n z ej => by
    rw [nth_sset] at ej
    by_cases h : j = i
    · rw [if_pos h] at ej; split at ej <;> cases ej
    · rw [if_neg h] at ej; exact ⟨ej, rfl⟩) (fun j z q ej es => by
    rw [nth_sset] at ej
    by_cases h : j = i
    · subst h; exact .inl ⟨j, x, e, es⟩
    · rw [if_neg h] at ej; exact .inl ⟨j, z, ej, es⟩) sF fun a t _ n => ⟨upd_ne fun z => n i x e (by rw [z]; exact hs), (upd_ne fun z => n i x e (by rw [z]; exact hs)).trans t.f⟩⟩
  · rw [upd_ne fun z => by subst z; exact mut_ne ha ho.h0]; exact w.post.new a ha
  · by_cases z : a = p
    · subst z; rw [upd_same] at h ⊢; exact h
    · rw [upd_ne z] at h ⊢; exact w.post.le a o h
  · rw [upd_ne fun z => by subst z; rw [ho.h0] at h; cases h]; exact w.post.kept a o h qf
  · rw [nth_sset] at ej
    by_cases h : j = i
    · subst h
      rw [if_pos rfl] at ej
      split at ej
      · cases ej; exact ⟨_, hs, rp od⟩
      · cases ej
    · rw [if_neg h] at ej
      obtain ⟨v, g1, g2⟩ := w.fz j z ej
      exact ⟨v, g1, g2.mono sF⟩
  · rw [nth_sset] at ej
    by_cases h : j = i
    · rw [if_pos h] at ej; split at ej <;> cases ej
    · rw [if_neg h] at ej
      obtain ⟨p', g1, g2⟩ := w.ow j z ej
      have np : p' ≠ p := fun z' => by
        subst z'
        exact w.dj j i z x h ej e (g1.trans hs.symm)
      exact ⟨p', g1, by rw [upd_ne np]; exact g2.f, g2.h0, g2.qf, g2.r.mono sF fun _ q => by rw [upd_ne np]; exact q⟩
  · rw [nth_sset] at e1 e2
    by_cases h1 : j = i
    · rw [if_pos h1] at e1; split at e1 <;> cases e1
    · by_cases h2 : k = i
      · rw [if_pos h2] at e2; split at e2 <;> cases e2
      · rw [if_neg h1] at e1
        rw [if_neg h2] at e2
        exact w.dj j k z z' h e1 e2
mutual
theorem TreeA.rep {q : Qa} {H0 F G H : Hp} (e : Same F G) : ∀ {n : Nat} {v : V} {d : D} {A : List Addr}, TreeA K q H0 F H n v d A → (∀ a ∈ A, G a = H a) → Rep K q G v d
  | _, _, _, _, .leaf h r t, k => .lst (by rw [k _ (by simp)]; exact h) (r.mono e)
  | _, _, _, _, .node h r m t, k => .lst (by rw [k _ (by simp)]; exact h) (TreesA.rep e r fun a ha => k a (by simp [ha]))
theorem TreesA.rep {q : Qa} {H0 F G H : Hp} (e : Same F G) : ∀ {n : Nat} {v : List V} {d : List D} {A : List Addr}, TreesA K q H0 F H n v d A → (∀ a ∈ A, G a = H a) → Reps K q G v d
  | _, _, _, _, .nil, _ => .nil
  | _, _, _, _, .cons h r m, k => .cons (TreeA.rep e h fun a ha => k a (by simp [ha])) (TreesA.rep e r fun a ha => k a (by simp [ha]))
end
open Classical in
/-- the lists of A as they stand, frozen -/
noncomputable def ovl (F H : Hp) (A : List Addr) : Hp := fun a => if a ∈ A then H a else F a
theorem ovl_in {A : List Addr} {a : Addr} (h : a ∈ A) : ovl F H A a = H a := if_pos h
theorem ovl_out {A : List Addr} {a : Addr} (h : a ∉ A) : ovl F H A a = F a := if_neg h
/-- a tree is frozen -/
theorem W.freezeT (w : W K c F H σ ρ ω) {i n : Nat} {x : D} (e : nth ρ i = .t n x) : ∃ F', W K c F' H σ (sset ρ i (.d x)) ω := by
  obtain ⟨fp, h1, h2, h3⟩ := w.tr.ex
  obtain ⟨p, hs, tr⟩ := h1 i n x e
  have ow := tr.own
  have sF : Same F (ovl F H (fp i)) := fun a o h => by
    rw [ovl_out fun z => by rw [(ow a z).1.f] at h; cases h]; exact h
  have rp : Rep K c.q (ovl F H (fp i)) (.ref p) x := tr.rep sF fun a ha => ovl_in ha
  refine ⟨ovl F H (fp i), ⟨w.post.le0.trans sF, fun a ha => ?_, fun a o h => ?_, w.post.kept, ora_at w.post.ora (fun a na => ovl_out fun z => na (ow a z).1.qf) fun _ _ => rfl⟩, by rw [sset_length]; exact w.len, fun j z ej => ?_, fun j z ej => ?_, fun j k z z' h e1 e2 => ?_, w.tb, ⟨fp, fun j m y ej => ?_, fun j m y k z q ej ek es => ?_, fun j k m m' y y' hjk e1 e2 => ?_⟩⟩
  · rw [ovl_out fun z => mut_ne ha (ow a z).1.h0]; exact w.post.new a ha
  · by_cases z : a ∈ fp i
    · rw [ovl_in z] at h; exact h
    · rw [ovl_out z] at h; exact w.post.le a o h
  · rw [nth_sset] at ej
    by_cases h : j = i
    · subst h
      rw [if_pos rfl] at ej
      split at ej
      · cases ej; exact ⟨_, hs, rp⟩
      · cases ej
    · rw [if_neg h] at ej
      obtain ⟨v, g1, g2⟩ := w.fz j z ej
      exact ⟨v, g1, g2.mono sF⟩
  · rw [nth_sset] at ej
    by_cases h : j = i
    · rw [if_pos h] at ej; split at ej <;> cases ej
    · rw [if_neg h] at ej
      obtain ⟨p', g1, g2⟩ := w.ow j z ej
      refine ⟨p', g1, ?_, g2.h0, g2.qf, g2.r.mono sF fun _ q => q⟩
      rw [ovl_out fun z' => h2 i n x j z p' e ej g1 z']; exact g2.f
  · rw [nth_sset] at e1 e2
    by_cases h1 : j = i
    · rw [if_pos h1] at e1; split at e1 <;> cases e1
    · by_cases h2 : k = i
      · rw [if_pos h2] at e2; split at e2 <;> cases e2
      · rw [if_neg h1] at e1
        rw [if_neg h2] at e2
        exact w.dj j k z z' h e1 e2
  · rw [nth_sset] at ej
    by_cases h : j = i
    · rw [if_pos h] at ej; split at ej <;> cases ej
    · rw [if_neg h] at ej
      obtain ⟨p', g1, g2⟩ := h1 j m y ej
      exact ⟨p', g1, g2.mono sF fun a ha => ⟨rfl, by rw [ovl_out (h3 j i m n y x h ej e a ha)]; exact (g2.own a ha).1.f⟩⟩
  · rw [nth_sset] at ej ek
    by_cases h : j = i
    · rw [if_pos h] at ej; split at ej <;> cases ej
    · by_cases h' : k = i
      · rw [if_pos h'] at ek; split at ek <;> cases ek
      · rw [if_neg h] at ej
        rw [if_neg h'] at ek
        exact h2 j m y k z q ej ek es
  · rw [nth_sset] at e1 e2
    by_cases h : j = i
    · rw [if_pos h] at e1; split at e1 <;> cases e1
    · by_cases h' : k = i
      · rw [if_pos h'] at e2; split at e2 <;> cases e2
      · rw [if_neg h] at e1
        rw [if_neg h'] at e2
        exact h3 j k m m' y y' hjk e1 e2
end
end FL
end
section
/-! FL: judgements, expressions. -/
namespace FL
open PySem PySem.Spec PyProof.Rows L2

@[reducible] def M (α : Type) := Ora → Option (α × Ora)
def ret {α : Type} (a : α) : M α := fun ω => some (a, ω)
def bnd {α β : Type} (m : M α) (k : α → M β) : M β := fun ω => match m ω with
  | some (a, ω') => k a ω'
  | none => none
def opt {α : Type} (o : Option α) : M α := fun ω => match o with
  | some a => some (a, ω)
  | none => none
theorem bnd_some {α β : Type} {m : M α} {k : α → M β} {ω ω' : Ora} {b : β} (h : bnd m k ω = some (b, ω')) : ∃ a ω1, m ω = some (a, ω1) ∧ k a ω1 = some (b, ω') := by
  unfold bnd at h
  split at h
  · rename_i a ω1 e; exact ⟨a, ω1, e, h⟩
  · cases h
theorem opt_some {α : Type} {o : Option α} {ω ω' : Ora} {b : α} (h : opt o ω = some (b, ω')) : o = some b ∧ ω' = ω := by
  unfold opt at h
  split at h
  · cases h; exact ⟨rfl, rfl⟩
  · cases h
theorem ret_some {α : Type} {o : α} {ω ω' : Ora} {b : α} (h : ret o ω = some (b, ω')) : o = b ∧ ω' = ω := by
  cases h; exact ⟨rfl, rfl⟩

abbrev EF := Env → M D
abbrev BF := Env → M Bool
abbrev AF := Env → M (List D)

/-! ### views: frozen data, or an own list or dict -/
def Vw (K : PySem.W.Frag) (q : Qa) (F H : Hp) (v : V) (d : D) : Prop := Rep K q F v d ∨ ∃ p, v = .ref p ∧ F p = none ∧ Qfree q p ∧ OwnR K q F H p d
section
variable {K : PySem.W.Frag} {q : Qa} {F H F' H' : Hp} {ω ω' : Ora} {v : V}
theorem Vw.ext {d : D} (h : Vw K q F H v d) (b : Post q F H F' H' ω') : Vw K q F' H' v d := by
  rcases h with h | ⟨p, e, h1, h2, h3⟩
  · exact .inl (h.mono b.le0)
  · exact .inr ⟨p, e, by rw [b.new p h3.mut]; exact h1, h2, h3.mono b.le0 fun o e => b.kept p o e h2⟩
theorem OwnR.repH {p : Addr} {d : D} (h : OwnR K q F H p d) (s : Same F H) (nd : isDic d = false) : Rep K q H (.ref p) d := by
  cases d with
  | lst ds => obtain ⟨vs, e, r⟩ := h; exact .lst e (r.mono s)
  | dic t kvs => cases nd
  | _ => exact h.elim
theorem Vw.repH {d : D} (h : Vw K q F H v d) (s : Same F H) (nd : isDic d = false) : Rep K q H v d := by
  rcases h with h | ⟨p, rfl, h1, h2, h3⟩
  · exact h.mono s
  · exact h3.repH s nd
theorem Vw.lst {ds : List D} (h : Vw K q F H v (.lst ds)) (s : Same F H) : ∃ p vs, v = .ref p ∧ H p = some (.lst vs) ∧ Reps K q F vs ds := by
  rcases h with h | ⟨p, rfl, h1, h2, vs, e, r⟩
  · cases h with
    | lst e r => exact ⟨_, _, rfl, s _ _ e, r⟩
  · exact ⟨p, vs, rfl, e, r⟩
theorem Vw.tup {ds : List D} (h : Vw K q F H v (.tup ds)) (s : Same F H) : ∃ p vs, v = .ref p ∧ SqT K H p vs ∧ Reps K q F vs ds := by
  rcases h with h | ⟨p, rfl, h1, h2, h3⟩
  · cases h with
    | tup e r => exact ⟨_, _, rfl, same_sqt s e.sq, r⟩
  · exact h3.elim
theorem Vw.int {i : Int} (h : Vw K q F H v (.int i)) : v = .int i := by
  rcases h with h | ⟨p, rfl, h1, h2, h3⟩
  · cases h; rfl
  · exact h3.elim
theorem Vw.bl {i : Bool} (h : Vw K q F H v (.bl i)) : v = .bl i := by
  rcases h with h | ⟨p, rfl, h1, h2, h3⟩
  · cases h; rfl
  · exact h3.elim
theorem Vw.non (h : Vw K q F H v .non) : v = .non := by
  rcases h with h | ⟨p, rfl, h1, h2, h3⟩
  · cases h; rfl
  · exact h3.elim
theorem Vw.str {x : Str} (h : Vw K q F H v (.str x)) : v = .str x := by
  rcases h with h | ⟨p, rfl, h1, h2, h3⟩
  · cases h; rfl
  · exact h3.elim
/-- lists and tuples -/
def seqD : D → Option (List D)
  | .lst ds => some ds
  | .tup ds => some ds
  | _ => none
theorem seqD_some {d : D} {ds : List D} (h : seqD d = some ds) : d = .lst ds ∨ d = .tup ds := by
  cases d <;> simp [seqD] at h
  · exact .inr (by rw [h])
  · exact .inl (by rw [h])
theorem Vw.seq {d : D} {ds : List D} (h : Vw K q F H v d) (s : Same F H) (e : seqD d = some ds) : ∃ p vs, v = .ref p ∧ (SqL K H p vs ∨ SqT K H p vs) ∧ Reps K q F vs ds := by
  rcases seqD_some e with rfl | rfl
  · obtain ⟨p, vs, e, h, r⟩ := h.lst s; exact ⟨p, vs, e, .inl (.inl (.inl h)), r⟩
  · obtain ⟨p, vs, e, h, r⟩ := h.tup s; exact ⟨p, vs, e, .inr h, r⟩
inductive Vws (K : PySem.W.Frag) (q : Qa) (F H : Hp) : List V → List D → Prop
  | nil : Vws K q F H [] []
  | cons {v : V} {vs : List V} {d : D} {ds : List D} : Vw K q F H v d → Vws K q F H vs ds → Vws K q F H (v :: vs) (d :: ds)
theorem Vws.one {vs : List V} {d : D} (h : Vws K q F H vs [d]) : ∃ v, vs = [v] ∧ Vw K q F H v d := by
  cases h with | cons h r => cases r; exact ⟨_, rfl, h⟩
theorem Vws.two {vs : List V} {d e : D} (h : Vws K q F H vs [d, e]) : ∃ v w, vs = [v, w] ∧ Vw K q F H v d ∧ Vw K q F H w e := by
  cases h with | cons h r => cases r with | cons h2 r => cases r; exact ⟨_, _, rfl, h, h2⟩
end

/-! ### judgements -/
/-- the value is frozen -/
def tE (K : PySem.W.Frag) (f : EF) : TE := fun σ H Q => ∃ c F ρ ω d ω', W K c F H σ ρ ω ∧ f ρ ω = some (d, ω') ∧ ∀ F' H' v, Post c.q F H F' H' ω' → Rep K c.q F' v d → Q v H'
/-- the value may be an own object -/
def tB (K : PySem.W.Frag) (f : EF) : TE := fun σ H Q => ∃ c F ρ ω d ω', W K c F H σ ρ ω ∧ f ρ ω = some (d, ω') ∧ ∀ F' H' v, Post c.q F H F' H' ω' → Vw K c.q F' H' v d → Q v H'
/-- the value is a new list or dict -/
def tF (K : PySem.W.Frag) (f : EF) : TE := fun σ H Q => ∃ c F ρ ω d ω', W K c F H σ ρ ω ∧ f ρ ω = some (d, ω') ∧ ∀ F' H' p, Post c.q F H F' H' ω' → H p = none → F' p = none → OwnR K c.q F' H' p d → Q (.ref p) H'
def tT' (K : PySem.W.Frag) (f : BF) : TT := fun σ H Q => ∃ c F ρ ω d ω', W K c F H σ ρ ω ∧ f ρ ω = some (d, ω') ∧ ∀ F' H', Post c.q F H F' H' ω' → Q d H'
/-- arguments: views -/
def tA (K : PySem.W.Frag) (f : AF) : TA := fun σ H Q => ∃ c F ρ ω d ω', W K c F H σ ρ ω ∧ f ρ ω = some (d, ω') ∧ ∀ F' H' vs, Post c.q F H F' H' ω' → Vws K c.q F' H' vs d → Q vs H'
/-- arguments: frozen -/
def tAE (K : PySem.W.Frag) (f : AF) : TA := fun σ H Q => ∃ c F ρ ω d ω', W K c F H σ ρ ω ∧ f ρ ω = some (d, ω') ∧ ∀ F' H' vs, Post c.q F H F' H' ω' → Reps K c.q F' vs d → Q vs H'

section
variable {X : Cx} {e a b : Expr} {f g : EF} {pos : Pos}
theorem pe_weak {t t' : TE} (h : PE X e t) (i : ∀ σ H Q, t' σ H Q → t σ H Q) : PE X e t' := ⟨fun pins s σ H Q I q => h.run pins s σ H Q I (i σ H Q q)⟩
theorem pt_weak {t t' : TT} (h : PT X e t) (i : ∀ σ H Q, t' σ H Q → t σ H Q) : PT X e t' := ⟨fun pins s σ H Q I q => h.run pins s σ H Q I (i σ H Q q)⟩
theorem pa_weak {es : List Expr} {t t' : TA} (h : PA X es t) (i : ∀ σ H Q, t' σ H Q → t σ H Q) : PA X es t' := ⟨fun pos pins s σ H Q I q => h.run pos pins s σ H Q I (i σ H Q q)⟩
theorem ps_weak {st : Stmt} {t t' : TS} (h : PS X st t) (i : ∀ D σ H, t' D σ H → t D σ H) : PS X st t' := ⟨fun pins s σ H D I q => h.run pins s σ H D I (i D σ H q)⟩
theorem pss_weak {st : List Stmt} {t t' : TS} (h : PSs X st t) (i : ∀ D σ H, t' D σ H → t D σ H) : PSs X st t' := ⟨fun pins s σ H D I q => h.run pins s σ H D I (i D σ H q)⟩
/-- frozen is a view -/
theorem bE (h : PE X e (tE X.K f)) : PE X e (tB X.K f) := pe_weak h fun σ H Q ⟨c, F, ρ, ω, d, ω', w, e, q⟩ => ⟨c, F, ρ, ω, d, ω', w, e, fun F' H' v p r => q F' H' v p (.inl r)⟩
theorem pss_lk {X : Cx} {ss : List Stmt} {t : TS} (h : PSs X ss t) : PSs X ss (fun D σ H => t D σ H ∨ ∃ d u, H d = some u ∧ Mut (some u) ∧ ∀ od, t D σ (upd H d (.frz od u))) := ⟨fun pins s σ H D I q => by
  rcases q with q | ⟨d, u, hd, mu, q⟩
  · exact h.run pins s σ H D I q
  · obtain ⟨od, I1⟩ := I.lock hd mu
    exact h.run pins s σ _ D I1 (q od)⟩
theorem pe_lk {X : Cx} {e : Expr} {t : TE} (h : PE X e t) : PE X e (fun σ H Q => t σ H fun v H1 => Q v H1 ∨ ∃ d u, H1 d = some u ∧ Mut (some u) ∧ ∀ od, Q v (upd H1 d (.frz od u))) := ⟨fun pins s σ H Q I q => by
  refine thn (h.run pins s σ H _ I q) fun v s1 ⟨x, H1, I2, r, q⟩ => ?_
  rcases q with q | ⟨d, u, hd, mu, q⟩
  · exact ⟨x, H1, I2, r, q⟩
  · obtain ⟨od, I3⟩ := I2.lock hd mu
    exact ⟨x, _, I3, r, q od⟩⟩
/-- a new one, frozen at once -/
theorem eF (h : PE X e (tF X.K f)) : PE X e (tE X.K f) := pe_weak (pe_lk h) fun σ H Q ⟨c, F, ρ, ω, d, ω', w, e, q⟩ => ⟨c, F, ρ, ω, d, ω', w, e, fun F' H' p po hn hp o => by
  cases nd : isDic d with
  | false =>
    obtain ⟨u, hu, r⟩ := o.rep hp nd
    exact .inl (q _ H' _ (po.freeze w.post.ora hn hu) r)
  | true =>
    obtain ⟨u, hu, mu, r⟩ := o.lock hp nd
    exact .inr ⟨p, u, hu, mu, fun od => q _ _ _ (po.lock w.post.ora hn hp _) (r od)⟩⟩
theorem bF (h : PE X e (tF X.K f)) : PE X e (tB X.K f) := pe_weak h fun σ H Q ⟨c, F, ρ, ω, d, ω', w, e, q⟩ => ⟨c, F, ρ, ω, d, ω', w, e, fun F' H' p po hn hp o =>
  q F' H' _ po (.inr ⟨p, rfl, hp, qfree_none w.post.ora hn, o⟩)⟩

/-! ### names, constants -/
def vr (i : Nat) : EF := fun ρ => match nth ρ i with
  | .d x => ret x
  | _ => opt none
def vw (i : Nat) : EF := fun ρ => match nth ρ i with
  | .d x => ret x
  | .o x => ret x
  | _ => opt none
def cst (d : D) : EF := fun _ => ret d
theorem e_var (i : Nat) {x : Str} (hN : X.N[i]? = some x := by rfl) (hv : Vis X.env.scope x := by first | exact Or.inl rfl | exact Or.inr (Or.inl rfl) | exact Or.inr (Or.inr rfl)) (hd : (x == ("__debug__" : Str)) = false := by decide)
    (hcd : (x == ("__classdict__" : Str)) = false := by decide) : PE X (.Name x pos) (tE X.K (vr i)) := pe_weak (pe_var hN hv hd hcd) fun σ H Q ⟨c, F, ρ, ω, d, ω', w, e, q⟩ => by
  unfold vr at e
  cases hy : nth ρ i with
  | d y =>
    rw [hy] at e
    obtain ⟨rfl, rfl⟩ := ret_some e
    obtain ⟨v, h1, h2⟩ := w.fz i _ hy
    exact ⟨v, h1, q F H v w.self h2⟩
  | o y => rw [hy] at e; cases e
  | t n y => rw [hy] at e; cases e
  | un => rw [hy] at e; cases e
theorem b_var (i : Nat) {x : Str} (hN : X.N[i]? = some x := by rfl) (hv : Vis X.env.scope x := by first | exact Or.inl rfl | exact Or.inr (Or.inl rfl) | exact Or.inr (Or.inr rfl)) (hd : (x == ("__debug__" : Str)) = false := by decide)
    (hcd : (x == ("__classdict__" : Str)) = false := by decide) : PE X (.Name x pos) (tB X.K (vw i)) := pe_weak (pe_var hN hv hd hcd) fun σ H Q ⟨c, F, ρ, ω, d, ω', w, e, q⟩ => by
  unfold vw at e
  cases hy : nth ρ i with
  | d y =>
    rw [hy] at e
    obtain ⟨rfl, rfl⟩ := ret_some e
    obtain ⟨v, h1, h2⟩ := w.fz i _ hy
    exact ⟨v, h1, q F H v w.self (.inl h2)⟩
  | o y =>
    rw [hy] at e
    obtain ⟨rfl, rfl⟩ := ret_some e
    obtain ⟨p, h1, h2⟩ := w.ow i _ hy
    exact ⟨_, h1, q F H _ w.self (.inr ⟨p, rfl, h2.f, h2.qf, h2.r⟩)⟩
  | t n y => rw [hy] at e; cases e
  | un => rw [hy] at e; cases e
theorem tC_of {v : V} {d : D} (r : ∀ K q F, Rep K q F v d) (h : PE X e (tC v)) : PE X e (tE X.K (cst d)) := pe_weak h fun σ H Q ⟨c, F, ρ, ω, d', ω', w, e, q⟩ => by
  obtain ⟨rfl, rfl⟩ := ret_some e
  exact q F H v w.self (r _ _ _)
theorem e_int {i : Int} {j : Nat} : PE X (.Constant (.int i) j pos) (tE X.K (cst (.int i))) := tC_of (fun _ _ _ => .int i) pe_int
theorem e_bl {i : Bool} {j : Nat} : PE X (.Constant (.bool i) j pos) (tE X.K (cst (.bl i))) := tC_of (fun _ _ _ => .bl i) pe_bl
theorem e_non {j : Nat} : PE X (.Constant .none j pos) (tE X.K (cst .non)) := tC_of (fun _ _ _ => .non) pe_non
theorem e_str {i : Str} {j : Nat} : PE X (.Constant (.str i) j pos) (tE X.K (cst (.str i))) := tC_of (fun _ _ _ => .str i) pe_str

/-! ### operations by values -/
def b1 (o : D → Option D) (f : EF) : EF := fun ρ => bnd (f ρ) fun x => opt (o x)
def b2 (o : D → D → Option D) (f g : EF) : EF := fun ρ => bnd (f ρ) fun x => bnd (g ρ) fun y => opt (o x y)
def bA (o : List D → Option D) (f : AF) : EF := fun ρ => bnd (f ρ) fun x => opt (o x)
/-- what an operation asks, from views -/
def Pure2 (K : PySem.W.Frag) (r : R2) (o : D → D → Option D) : Prop := ∀ (q : Qa) (F H : Hp) (ω : Ora) (x y : V) (a b d : D) (Q : VK), Same F H → OraR q F H ω → Vw K q F H x a → Vw K q F H y b → o a b = some d →
  (∀ F' H' u, Post q F H F' H' ω → Rep K q F' u d → Q u H') → r x y H Q
def Pure2F (K : PySem.W.Frag) (r : R2) (o : D → D → Option D) : Prop := ∀ (q : Qa) (F H : Hp) (ω : Ora) (x y : V) (a b d : D) (Q : VK), Same F H → OraR q F H ω → Vw K q F H x a → Vw K q F H y b → o a b = some d →
  (∀ F' H' p, Post q F H F' H' ω → H p = none → F' p = none → OwnR K q F' H' p d → Q (.ref p) H') → r x y H Q
def Pure1 (K : PySem.W.Frag) (r : V → Hp → VK → Prop) (o : D → Option D) : Prop := ∀ (q : Qa) (F H : Hp) (ω : Ora) (x : V) (a d : D) (Q : VK), Same F H → OraR q F H ω → Vw K q F H x a → o a = some d →
  (∀ F' H' u, Post q F H F' H' ω → Rep K q F' u d → Q u H') → r x H Q
def PureA (K : PySem.W.Frag) (r : List V → Hp → VK → Prop) (o : List D → Option D) : Prop := ∀ (q : Qa) (F H : Hp) (ω : Ora) (xs : List V) (a : List D) (d : D) (Q : VK), Same F H → OraR q F H ω → Vws K q F H xs a → o a = some d →
  (∀ F' H' u, Post q F H F' H' ω → Rep K q F' u d → Q u H') → r xs H Q
def PureAF (K : PySem.W.Frag) (r : List V → Hp → VK → Prop) (o : List D → Option D) : Prop := ∀ (q : Qa) (F H : Hp) (ω : Ora) (xs : List V) (a : List D) (d : D) (Q : VK), Same F H → OraR q F H ω → Vws K q F H xs a → o a = some d →
  (∀ F' H' p, Post q F H F' H' ω → H p = none → F' p = none → OwnR K q F' H' p d → Q (.ref p) H') → r xs H Q

theorem two_core {r : R2} {o : D → D → Option D} {ta tb : TE} (hr : Pure2 X.K r o) (ia : ∀ σ H Q, tB X.K f σ H Q → ta σ H Q) (ib : ∀ σ H Q, tB X.K g σ H Q → tb σ H Q) (σ : L2.St) (H : Hp) (Q : VK) (h : tE X.K (b2 o f g) σ H Q) : tOp r ta tb σ H Q := by
  obtain ⟨c, F, ρ, ω, d, ω', w, e, q⟩ := h
  obtain ⟨x, ω1, e1, e⟩ := bnd_some e
  obtain ⟨y, ω2, e2, e⟩ := bnd_some e
  obtain ⟨e3, rfl⟩ := opt_some e
  refine ia _ _ _ ⟨c, F, ρ, ω, x, ω1, w, e1, fun F1 H1 v p1 r1 => ib _ _ _ ⟨c, F1, ρ, ω1, y, ω', w.ext p1, e2, fun F2 H2 u p2 r2 => ?_⟩⟩
  exact hr c.q F2 H2 ω' v u x y d Q p2.le p2.ora (r1.ext p2) r2 e3 fun F3 H3 z p3 r3 => q F3 H3 z ((p1.trans p2).trans p3) r3
theorem two_coreF {r : R2} {o : D → D → Option D} {ta tb : TE} (hr : Pure2F X.K r o) (ia : ∀ σ H Q, tB X.K f σ H Q → ta σ H Q) (ib : ∀ σ H Q, tB X.K g σ H Q → tb σ H Q) (σ : L2.St) (H : Hp) (Q : VK) (h : tF X.K (b2 o f g) σ H Q) : tOp r ta tb σ H Q := by
  obtain ⟨c, F, ρ, ω, d, ω', w, e, q⟩ := h
  obtain ⟨x, ω1, e1, e⟩ := bnd_some e
  obtain ⟨y, ω2, e2, e⟩ := bnd_some e
  obtain ⟨e3, rfl⟩ := opt_some e
  refine ia _ _ _ ⟨c, F, ρ, ω, x, ω1, w, e1, fun F1 H1 v p1 r1 => ib _ _ _ ⟨c, F1, ρ, ω1, y, ω', w.ext p1, e2, fun F2 H2 u p2 r2 => ?_⟩⟩
  exact hr c.q F2 H2 ω' v u x y d Q p2.le p2.ora (r1.ext p2) r2 e3 fun F3 H3 z p3 n3 f3 r3 => q F3 H3 z ((p1.trans p2).trans p3)
    (by cases e : H z with
        | none => rfl
        | some o => exact absurd n3 ((p1.trans p2).some_of (by rw [e]; exact (fun z => nomatch z)) (qfree_none p2.ora n3))) f3 r3
theorem e_bin {op : Operator} {r : R2} {o : D → D → Option D} (ho : OpR X (binaryOp op) r) (hr : Pure2 X.K r o) (ha : PE X a (tB X.K f)) (hb : PE X b (tB X.K g)) : PE X (.BinOp a op b pos) (tE X.K (b2 o f g)) :=
  pe_weak (pe_op ho ha hb) (two_core hr (fun _ _ _ h => h) (fun _ _ _ h => h))
theorem f_bin {op : Operator} {r : R2} {o : D → D → Option D} (ho : OpR X (binaryOp op) r) (hr : Pure2F X.K r o) (ha : PE X a (tB X.K f)) (hb : PE X b (tB X.K g)) : PE X (.BinOp a op b pos) (tF X.K (b2 o f g)) :=
  pe_weak (pe_op ho ha hb) (two_coreF hr (fun _ _ _ h => h) (fun _ _ _ h => h))
theorem e_cmp {op : CmpOp} {r : R2} {o : D → D → Option D} (ho : OpR X (compareOp op) r) (hr : Pure2 X.K r o) (ha : PE X a (tB X.K f)) (hb : PE X b (tB X.K g)) (hm : behindInMarks op b = false := by first | exact nomark _ | rfl) : PE X (.Compare a [op] [b] pos) (tE X.K (b2 o f g)) :=
  pe_weak (pe_cmpR ho ha hb hm) (two_core hr (fun _ _ _ h => h) (fun _ _ _ h => h))
/-- a value as a test, where it is a bool -/
def isB (f : EF) : BF := fun ρ => bnd (f ρ) fun x => match x with
  | .bl b => ret b
  | _ => opt none
theorem isB_of {K : PySem.W.Frag} {σ : L2.St} {H : Hp} {Q : Bool → Hp → Prop} (h : tT' K (isB f) σ H Q) : tE K f σ H fun x H' => ∃ k, x = .bl k ∧ Q k H' := by
  obtain ⟨c, F, ρ, ω, d, ω', w, e, q⟩ := h
  obtain ⟨x, ω1, e1, e⟩ := bnd_some e
  split at e
  · rename_i k
    obtain ⟨rfl, rfl⟩ := ret_some e
    exact ⟨c, F, ρ, ω, _, _, w, e1, fun F1 H1 v p1 r1 => by cases r1; exact ⟨_, rfl, q F1 H1 p1⟩⟩
  · cases e
theorem t_cmp {op : CmpOp} {r : R2} {o : D → D → Option D} (ho : OpR X (compareOp op) r) (hr : Pure2 X.K r o) (ha : PE X a (tB X.K f)) (hb : PE X b (tB X.K g)) (hm : behindInMarks op b = false := by first | exact nomark _ | rfl) : PT X (.Compare a [op] [b] pos) (tT' X.K (isB (b2 o f g))) :=
  pt_weak (pt_cmpR ho ha hb hm) fun σ H Q h => two_core hr (fun _ _ _ h => h) (fun _ _ _ h => h) σ H _ (isB_of h)
theorem e_un {op : UnaryOp} {r : V → Hp → VK → Prop} {o : D → Option D} (ho : UnR X (unaryOp op) r) (hr : Pure1 X.K r o) (ha : PE X a (tB X.K f)) : PE X (.UnaryOp op a pos) (tE X.K (b1 o f)) :=
  pe_weak (pe_un ho ha) fun σ H Q h => by
    obtain ⟨c, F, ρ, ω, d, ω', w, e, q⟩ := h
    obtain ⟨x, ω1, e1, e⟩ := bnd_some e
    obtain ⟨e3, rfl⟩ := opt_some e
    exact ⟨c, F, ρ, ω, x, _, w, e1, fun F1 H1 v p1 r1 => hr c.q F1 H1 _ v x d Q p1.le p1.ora r1 e3 fun F3 H3 z p3 r3 => q F3 H3 z (p1.trans p3) r3⟩

/-! ### arguments -/
def aN : AF := fun _ => ret []
def aC (f : EF) (g : AF) : AF := fun ρ => bnd (f ρ) fun x => bnd (g ρ) fun y => ret (x :: y)
theorem a_nil : PA X [] (tA X.K aN) := pa_weak pa_nil fun σ H Q ⟨c, F, ρ, ω, d, ω', w, e, q⟩ => by
  obtain ⟨rfl, rfl⟩ := ret_some e
  exact q F H [] w.self .nil
theorem a_cons {es : List Expr} {g : AF} (ha : PE X e (tB X.K f)) (hr : PA X es (tA X.K g)) (hs : starEach (e :: es) X.env = (false, eval e X.env) :: starEach es X.env := by rfl) : PA X (e :: es) (tA X.K (aC f g)) :=
  pa_weak (pa_cons ha hr hs) fun σ H Q ⟨c, F, ρ, ω, d, ω', w, e, q⟩ => by
    obtain ⟨x, ω1, e1, e⟩ := bnd_some e
    obtain ⟨y, ω2, e2, e⟩ := bnd_some e
    obtain ⟨rfl, rfl⟩ := ret_some e
    exact ⟨c, F, ρ, ω, x, ω1, w, e1, fun F1 H1 v p1 r1 => ⟨c, F1, ρ, ω1, y, _, w.ext p1, e2, fun F2 H2 u p2 r2 => q F2 H2 _ (p1.trans p2) (.cons (r1.ext p2) r2)⟩⟩
theorem ae_nil : PA X [] (tAE X.K aN) := pa_weak pa_nil fun σ H Q ⟨c, F, ρ, ω, d, ω', w, e, q⟩ => by
  obtain ⟨rfl, rfl⟩ := ret_some e
  exact q F H [] w.self .nil
theorem ae_cons {es : List Expr} {g : AF} (ha : PE X e (tE X.K f)) (hr : PA X es (tAE X.K g)) (hs : starEach (e :: es) X.env = (false, eval e X.env) :: starEach es X.env := by rfl) : PA X (e :: es) (tAE X.K (aC f g)) :=
  pa_weak (pa_cons ha hr hs) fun σ H Q ⟨c, F, ρ, ω, d, ω', w, e, q⟩ => by
    obtain ⟨x, ω1, e1, e⟩ := bnd_some e
    obtain ⟨y, ω2, e2, e⟩ := bnd_some e
    obtain ⟨rfl, rfl⟩ := ret_some e
    exact ⟨c, F, ρ, ω, x, ω1, w, e1, fun F1 H1 v p1 r1 => ⟨c, F1, ρ, ω1, y, _, w.ext p1, e2, fun F2 H2 u p2 r2 => q F2 H2 _ (p1.trans p2) (.cons (r1.mono p2.le0) r2)⟩⟩
/-- displays -/
def eTup (g : AF) : EF := fun ρ => bnd (g ρ) fun ds => opt (if ds.length ≤ sizeLine then some (.tup ds) else none)
def eLst (g : AF) : EF := fun ρ => bnd (g ρ) fun ds => opt (if ds.length ≤ sizeLine then some (.lst ds) else none)
theorem e_tup {es : List Expr} {g : AF} {k : Nat} (h : PA X es (tAE X.K g)) : PE X (.Tuple es k pos) (tE X.K (eTup g)) := pe_weak (pe_tup h) fun σ H Q ⟨c, F, ρ, ω, d, ω', w, e, q⟩ => by
  obtain ⟨x, ω1, e1, e⟩ := bnd_some e
  obtain ⟨e3, rfl⟩ := opt_some e
  split at e3
  · rename_i hz
    cases e3
    exact ⟨c, F, ρ, ω, x, _, w, e1, fun F1 H1 v p1 r1 => ⟨by rw [r1.length]; exact hz, fun p hp => q _ _ _ (p1.trans (Post.alloc p1.le p1.ora hp)) (.tup upd_same (r1.mono (same_new (same_none p1.le hp))))⟩⟩
  · cases e3
theorem f_lst {es : List Expr} {g : AF} (h : PA X es (tAE X.K g)) : PE X (.List es pos) (tF X.K (eLst g)) := pe_weak (pe_lst h) fun σ H Q ⟨c, F, ρ, ω, d, ω', w, e, q⟩ => by
  obtain ⟨x, ω1, e1, e⟩ := bnd_some e
  obtain ⟨e3, rfl⟩ := opt_some e
  split at e3
  · rename_i hz
    cases e3
    refine ⟨c, F, ρ, ω, x, _, w, e1, fun F1 H1 v p1 r1 => ⟨by rw [r1.length]; exact hz, fun p hp => q _ _ _ (p1.trans (Post.fresh p1.le p1.ora hp)) ?_ (same_none p1.le hp) ⟨v, upd_same, r1⟩⟩⟩
    cases e : H p with
    | none => rfl
    | some o => exact absurd hp (p1.some_of (by rw [e]; exact (fun z => nomatch z)) (qfree_none p1.ora hp))
  · cases e3

/-! ### calls of built-ins by name -/
theorem argsE {r : List V → Hp → VK → Prop} {o : List D → Option D} {g : AF} (hr : PureA X.K r o) {σ : L2.St} {H : Hp} {Q : VK} (h : tE X.K (bA o g) σ H Q) : tCB r (tA X.K g) σ H Q := by
  obtain ⟨c, F, ρ, ω, d, ω', w, e, q⟩ := h
  obtain ⟨x, ω1, e1, e⟩ := bnd_some e
  obtain ⟨e3, rfl⟩ := opt_some e
  exact ⟨c, F, ρ, ω, x, _, w, e1, fun F1 H1 v p1 r1 => hr c.q F1 H1 _ v x d Q p1.le p1.ora r1 e3 fun F3 H3 z p3 r3 => q F3 H3 z (p1.trans p3) r3⟩
theorem none_back {q : Qa} {F H F1 H1 : Hp} {ω1 : Ora} (p1 : Post q F H F1 H1 ω1) {p : Addr} (hp : H1 p = none) : H p = none := by
  cases e : H p with
  | none => rfl
  | some o => exact absurd hp (p1.some_of (by rw [e]; exact (fun z => nomatch z)) (qfree_none p1.ora hp))
theorem argsF {r : List V → Hp → VK → Prop} {o : List D → Option D} {g : AF} (hr : PureAF X.K r o) {σ : L2.St} {H : Hp} {Q : VK} (h : tF X.K (bA o g) σ H Q) : tCB r (tA X.K g) σ H Q := by
  obtain ⟨c, F, ρ, ω, d, ω', w, e, q⟩ := h
  obtain ⟨x, ω1, e1, e⟩ := bnd_some e
  obtain ⟨e3, rfl⟩ := opt_some e
  exact ⟨c, F, ρ, ω, x, _, w, e1, fun F1 H1 v p1 r1 => hr c.q F1 H1 _ v x d Q p1.le p1.ora r1 e3 fun F3 H3 z p3 n3 f3 r3 => q F3 H3 z (p1.trans p3) (none_back p1 n3) f3 r3⟩
section
variable {r : List V → Hp → VK → Prop} {o : List D → Option D} {g : AF} {x : Str} {id T : String} {es : List Expr} {p : Pos}
theorem e_callB (hc : CallR X (.builtin id) r) (hr : PureA X.K r o) (hm : X.mg x = none) (ha : PA X (e :: es) (tA X.K g)) (hg : Gl X x := by rfl) (hv : bootBuiltins x = some (.builtin id) := by first | assumption | decide +kernel)
    (hn : x ≠ "__name__" := by decide) (hdb : (x == ("__debug__" : Str)) = false := by decide) (he : starEach (e :: es) X.env = (false, eval e X.env) :: starEach es X.env := by rfl) (hpl : (backTo pos (starEach es X.env)).any (·.1) = false := by rfl) : PE X (.Call (.Name x p) (e :: es) [] pos) (tE X.K (bA o g)) :=
  pe_weak (pe_callB hc hg hm hv ha hn hdb he hpl) fun σ H Q h => argsE hr h
theorem f_callB (hc : CallR X (.builtin id) r) (hr : PureAF X.K r o) (hm : X.mg x = none) (ha : PA X (e :: es) (tA X.K g)) (hg : Gl X x := by rfl) (hv : bootBuiltins x = some (.builtin id) := by first | assumption | decide +kernel)
    (hn : x ≠ "__name__" := by decide) (hdb : (x == ("__debug__" : Str)) = false := by decide) (he : starEach (e :: es) X.env = (false, eval e X.env) :: starEach es X.env := by rfl) (hpl : (backTo pos (starEach es X.env)).any (·.1) = false := by rfl) : PE X (.Call (.Name x p) (e :: es) [] pos) (tF X.K (bA o g)) :=
  pe_weak (pe_callB hc hg hm hv ha hn hdb he hpl) fun σ H Q h => argsF hr h
theorem e_callTy (hc : CallR X (.type T) r) (hr : PureA X.K r o) (hm : X.mg x = none) (ha : PA X (e :: es) (tA X.K g)) (hg : Gl X x := by rfl) (hv : bootBuiltins x = some (.type T) := by first | assumption | decide +kernel)
    (hn : x ≠ "__name__" := by decide) (hdb : (x == ("__debug__" : Str)) = false := by decide) (he : starEach (e :: es) X.env = (false, eval e X.env) :: starEach es X.env := by rfl) (hpl : (backTo pos (starEach es X.env)).any (·.1) = false := by rfl) : PE X (.Call (.Name x p) (e :: es) [] pos) (tE X.K (bA o g)) :=
  pe_weak (pe_callTy hc hg hm hv ha hn hdb he hpl) fun σ H Q h => argsE hr h
theorem f_callTy (hc : CallR X (.type T) r) (hr : PureAF X.K r o) (hm : X.mg x = none) (ha : PA X (e :: es) (tA X.K g)) (hg : Gl X x := by rfl) (hv : bootBuiltins x = some (.type T) := by first | assumption | decide +kernel)
    (hn : x ≠ "__name__" := by decide) (hdb : (x == ("__debug__" : Str)) = false := by decide) (he : starEach (e :: es) X.env = (false, eval e X.env) :: starEach es X.env := by rfl) (hpl : (backTo pos (starEach es X.env)).any (·.1) = false := by rfl) : PE X (.Call (.Name x p) (e :: es) [] pos) (tF X.K (bA o g)) :=
  pe_weak (pe_callTy hc hg hm hv ha hn hdb he hpl) fun σ H Q h => argsF hr h
end
end
end FL
end
section
/-! FL: operations. -/
namespace FL
open PySem PySem.Spec PyProof.Rows L2

section
variable {K : PySem.W.Frag} {q : Qa} {F H : Hp} {ω : Ora} {v : V} {d : D}
theorem Vw.rep_of (h : Vw K q F H v d) (n : ∀ p, ¬ OwnR K q F H p d) : Rep K q F v d := by
  rcases h with h | ⟨p, rfl, _, _, h3⟩
  · exact h
  · exact (n p h3).elim
end

/-! ### + -/
def dAdd : D → D → Option D
  | .int i, .int j => some (.int (i + j))
  | .tup a, .tup b => if a.length + b.length ≤ sizeLine then some (.tup (a ++ b)) else none
  | .lst a, .lst b => if a.length + b.length ≤ sizeLine then some (.lst (a ++ b)) else none
  | _, _ => none
def dCat : D → D → Option D
  | .lst a, .lst b => if a.length + b.length ≤ sizeLine then some (.lst (a ++ b)) else none
  | _, _ => none
def rAddA (K : PySem.W.Frag) : R2 := fun x y H Q => rI0 (fun i j => .int (i + j)) x y H Q ∨ (rCat x y H Q ∨ rCatA K x y H Q)
theorem op_addA {X : Cx} : OpR X (binaryOp .Add) (rAddA X.K) := op_add.or (op_cat.or op_catA)
theorem dCat_nd {a b d : D} (h : dCat a b = some d) : isDic d = false := by
  cases a <;> cases b <;> simp only [dCat, reduceCtorEq] at h
  split at h
  · cases h; rfl
  · cases h
theorem cat_pureF {K : PySem.W.Frag} : Pure2F K rCat dCat := by
  intro q F H ω x y a b d Q hs ho hx hy e k
  cases a <;> cases b <;> simp only [dCat, reduceCtorEq] at e
  rename_i as bs
  split at e
  · cases e
    obtain ⟨p, vs, rfl, h1, r1⟩ := hx.lst hs
    obtain ⟨p2, vs2, rfl, h2, r2⟩ := hy.lst hs
    refine ⟨p, p2, vs, vs2, rfl, rfl, h1, h2, by rw [r1.length, r2.length]; assumption, fun z hz => k F _ z (Post.fresh hs ho hz) hz (same_none hs hz) ⟨_, upd_same, r1.append r2⟩⟩
  · cases e
theorem add_pure {K : PySem.W.Frag} : Pure2 K (rAddA K) dAdd := by
  intro q F H ω x y a b d Q hs ho hx hy e k
  cases a <;> cases b <;> simp only [dAdd, reduceCtorEq] at e
  · cases e
    cases hx.int
    cases hy.int
    exact .inl ⟨_, _, rfl, rfl, k F H _ (.mk0 hs ho) (.int _)⟩
  · split at e
    · cases e
      have hx' := hx.rep_of (fun p h => h)
      have hy' := hy.rep_of (fun p h => h)
      obtain ⟨p, vs, rfl, h1, r1⟩ := hx.tup hs
      obtain ⟨p2, vs2, rfl, h2, r2⟩ := hy.tup hs
      refine .inr (.inr ⟨p, p2, vs, vs2, rfl, rfl, h1, h2, by rw [r1.length, r2.length]; assumption, fun z => ?_, fun z1 z2 => ?_, fun z1 z2 z hz => ?_⟩)
      · subst z; cases r1; exact k F H _ (.mk0 hs ho) hy'
      · subst z2; cases r2; rw [List.append_nil] at k; exact k F H _ (.mk0 hs ho) hx'
      · exact k _ _ _ (Post.alloc hs ho hz) (.tup upd_same ((r1.append r2).mono (same_new (same_none hs hz))))
    · cases e
  · refine .inr (.inl (cat_pureF q F H ω x y _ _ d Q hs ho hx hy e fun F' H' p po hn hf o => ?_))
    obtain ⟨u, hu, r⟩ := o.rep hf (dCat_nd (a := .lst _) (b := .lst _) e)
    exact k _ H' _ (po.freeze ho hn hu) r

/-! ### -, *, //, % -/
def dSub : D → D → Option D
  | .int i, .int j => some (.int (i - j))
  | _, _ => none
theorem sub_pure {K : PySem.W.Frag} : Pure2 K (rI0 fun i j => .int (i - j)) dSub := by
  intro q F H ω x y a b d Q hs ho hx hy e k
  cases a <;> cases b <;> simp only [dSub, reduceCtorEq] at e
  cases e
  cases hx.int
  cases hy.int
  exact ⟨_, _, rfl, rfl, k F H _ (.mk0 hs ho) (.int _)⟩
def mulOk (i j : Int) : Bool := (decide (-(2 ^ 64) < i) && decide (i < 2 ^ 64)) || (decide (-(2 ^ 64) < j) && decide (j < 2 ^ 64)) || (decide (i.natAbs < 2 ^ 20000) && decide (j.natAbs < 2 ^ 20000))
def repOk (n : Nat) (k : Int) : Bool := decide (-(2 ^ 63) ≤ k) && decide (k < 2 ^ 63) && decide (n * k.toNat ≤ sizeLine)
def dMul : D → D → Option D
  | .int i, .int j => if mulOk i j = true then some (.int (i * j)) else none
  | .lst ds, .int k => if repOk ds.length k = true then some (.lst (List.replicate k.toNat ds).flatten) else none
  | _, _ => none
def dRep : D → D → Option D
  | .lst ds, .int k => if repOk ds.length k = true then some (.lst (List.replicate k.toNat ds).flatten) else none
  | _, _ => none
theorem dRep_nd {a b d : D} (h : dRep a b = some d) : isDic d = false := by
  cases a <;> cases b <;> simp only [dRep, reduceCtorEq] at h
  split at h
  · cases h; rfl
  · cases h
theorem rep_pureF {K : PySem.W.Frag} : Pure2F K rRep dRep := by
  intro q F H ω x y a b d Q hs ho hx hy e k
  cases a <;> cases b <;> simp only [dRep, reduceCtorEq] at e
  split at e
  · rename_i h
    simp only [repOk, Bool.and_eq_true, decide_eq_true_eq] at h
    cases e
    obtain ⟨p, vs, rfl, h1, r1⟩ := hx.lst hs
    cases hy.int
    exact ⟨p, _, vs, rfl, rfl, h1, h.1.1, h.1.2, by rw [r1.length]; exact h.2, fun z hz => k F _ z (Post.fresh hs ho hz) hz (same_none hs hz) ⟨_, upd_same, r1.rep _⟩⟩
  · cases e
def rMulA : R2 := fun x y H Q => rI CMul (fun i j => .int (i * j)) x y H Q ∨ (rI CMulW (fun i j => .int (i * j)) x y H Q ∨ rRep x y H Q)
theorem op_mulA {X : Cx} : OpR X (binaryOp .Mult) rMulA := op_mul.or (op_mulW.or op_rep)
theorem mul_pure {K : PySem.W.Frag} : Pure2 K rMulA dMul := by
  intro q F H ω x y a b d Q hs ho hx hy e k
  cases a <;> cases b <;> simp only [dMul, reduceCtorEq] at e
  · split at e
    · rename_i h
      cases e
      cases hx.int
      cases hy.int
      simp only [mulOk, Bool.or_eq_true, Bool.and_eq_true, decide_eq_true_eq] at h
      rcases h with (h | h) | h
      · exact .inl ⟨_, _, rfl, rfl, .inl h, k F H _ (.mk0 hs ho) (.int _)⟩
      · exact .inl ⟨_, _, rfl, rfl, .inr h, k F H _ (.mk0 hs ho) (.int _)⟩
      · exact .inr (.inl ⟨_, _, rfl, rfl, wide_mul h.1 h.2 (by decide) (by decide) (by decide), k F H _ (.mk0 hs ho) (.int _)⟩)
    · cases e
  · refine .inr (.inr (rep_pureF q F H ω x y (.lst _) (.int _) d Q hs ho hx hy e fun F' H' p po hn hf o => ?_))
    obtain ⟨u, hu, r⟩ := o.rep hf (dRep_nd (a := .lst _) (b := .int _) e)
    exact k _ H' _ (po.freeze ho hn hu) r
def dDiv : D → D → Option D
  | .int i, .int j => if (decide (0 < j) && decide (j.natAbs < 2 ^ 8000)) = true then some (.int (i / j)) else none
  | _, _ => none
theorem div_pure {K : PySem.W.Frag} : Pure2 K (rI CDivW fun i j => .int (i / j)) dDiv := by
  intro q F H ω x y a b d Q hs ho hx hy e k
  cases a <;> cases b <;> simp only [dDiv, reduceCtorEq] at e
  split at e
  · rename_i h
    simp only [Bool.and_eq_true, decide_eq_true_eq] at h
    cases e
    cases hx.int
    cases hy.int
    exact ⟨_, _, rfl, rfl, wide_div h.1 h.2 (by decide) (by decide), k F H _ (.mk0 hs ho) (.int _)⟩
  · cases e
def dMod : D → D → Option D
  | .int i, .int j => if decide (0 < j) = true then some (.int (i % j)) else none
  | _, _ => none
theorem mod_pure {K : PySem.W.Frag} : Pure2 K (rI (fun _ j => 0 < j) fun i j => .int (i % j)) dMod := by
  intro q F H ω x y a b d Q hs ho hx hy e k
  cases a <;> cases b <;> simp only [dMod, reduceCtorEq] at e
  split at e
  · rename_i h
    simp only [decide_eq_true_eq] at h
    cases e
    cases hx.int
    cases hy.int
    exact ⟨_, _, rfl, rfl, h, k F H _ (.mk0 hs ho) (.int _)⟩
  · cases e
def dPow : D → D → Option D
  | .int i, .int j => if (decide (0 ≤ j) && decide (j ≤ 1000000) && decide (i.natAbs < 2 ^ 64)) = true then some (.int (i ^ j.toNat)) else none
  | _, _ => none
theorem pow_pure {K : PySem.W.Frag} : Pure2 K (rI CPow fun i j => .int (i ^ j.toNat)) dPow := by
  intro q F H ω x y a b d Q hs ho hx hy e k
  cases a <;> cases b <;> simp only [dPow, reduceCtorEq] at e
  split at e
  · rename_i h
    simp only [Bool.and_eq_true, decide_eq_true_eq] at h
    cases e
    cases hx.int
    cases hy.int
    exact ⟨_, _, rfl, rfl, ⟨h.1.1, h.1.2, h.2⟩, k F H _ (.mk0 hs ho) (.int _)⟩
  · cases e
def dShl : D → D → Option D
  | .int i, .int j => if (decide (0 ≤ j) && decide (j ≤ 1000000) && decide (i.natAbs < 2 ^ 64)) = true then some (.int (i * 2 ^ j.toNat)) else none
  | _, _ => none
theorem shl_pure {K : PySem.W.Frag} : Pure2 K (rI CPow fun i j => .int (i * 2 ^ j.toNat)) dShl := by
  intro q F H ω x y a b d Q hs ho hx hy e k
  cases a <;> cases b <;> simp only [dShl, reduceCtorEq] at e
  split at e
  · rename_i h
    simp only [Bool.and_eq_true, decide_eq_true_eq] at h
    cases e
    cases hx.int
    cases hy.int
    exact ⟨_, _, rfl, rfl, ⟨h.1.1, h.1.2, h.2⟩, k F H _ (.mk0 hs ho) (.int _)⟩
  · cases e
def dNeg : D → Option D
  | .int i => some (.int (-i))
  | _ => none
theorem neg_pure {K : PySem.W.Frag} : Pure1 K (rU fun i => .int (-i)) dNeg := by
  intro q F H ω x a d Q hs ho hx e k
  cases a <;> simp only [dNeg, reduceCtorEq] at e
  cases e
  cases hx.int
  exact ⟨_, rfl, k F H _ (.mk0 hs ho) (.int _)⟩

/-! ### comparisons of ints -/
def dCmp (p : Int → Int → Bool) : D → D → Option D
  | .int i, .int j => some (.bl (p i j))
  | _, _ => none
theorem cmp_pure {K : PySem.W.Frag} (p : Int → Int → Bool) : Pure2 K (rI0 fun i j => .bl (p i j)) (dCmp p) := by
  intro q F H ω x y a b d Q hs ho hx hy e k
  cases a <;> cases b <;> simp only [dCmp, reduceCtorEq] at e
  cases e
  cases hx.int
  cases hy.int
  exact ⟨_, _, rfl, rfl, k F H _ (.mk0 hs ho) (.bl _)⟩
abbrev dLt : D → D → Option D := dCmp fun i j => decide (i < j)
abbrev dLe : D → D → Option D := dCmp fun i j => decide (i ≤ j)
abbrev dGt : D → D → Option D := dCmp fun i j => decide (j < i)
abbrev dGe : D → D → Option D := dCmp fun i j => decide (j ≤ i)

/-! ### equality -/
mutual
def toPy : D → PyData
  | .non => .none
  | .bl b => .bool b
  | .int i => .int i
  | .str x => .str x
  | .tup ds => .tuple (toPys ds)
  | .lst ds => .list (toPys ds)
  | .dic _ _ => .dict []
  | .tok => .dict []
def toPys : List D → List PyData
  | [] => []
  | d :: ds => toPy d :: toPys ds
end
def okd : Nat → D → Bool
  | _, .non => true
  | _, .bl _ => true
  | _, .int _ => true
  | _, .str x => PyData.strOk x
  | n + 1, .tup ds => ds.all (okd n)
  | n + 1, .lst ds => ds.all (okd n)
  | _, _ => false
theorem okd_nd : ∀ {n : Nat} {d : D}, okd n d = true → isDic d = false := by
  intro n d h
  cases d with
  | dic t kvs => cases n <;> cases h
  | _ => rfl
theorem canLays {ds : List D} (h : ∀ d ∈ ds, (toPy d).canLay0 = true) : PyData.canLayAll0 (toPys ds) = true := by
  induction ds with
  | nil => rfl
  | cons d ds ih =>
    rw [toPys, PyData.canLayAll0, h d (by simp), ih fun e he => h e (by simp [he])]; rfl
theorem depths {ds : List D} {n : Nat} (h : ∀ d ∈ ds, (toPy d).depth ≤ n) : PyData.depthAll (toPys ds) ≤ n := by
  induction ds with
  | nil => exact Nat.zero_le _
  | cons d ds ih =>
    rw [toPys, PyData.depthAll]
    exact Nat.max_le.mpr ⟨h d (by simp), ih fun e he => h e (by simp [he])⟩
theorem okd_py : ∀ (n : Nat) (d : D), okd n d = true → (toPy d).canLay0 = true ∧ (toPy d).depth ≤ n := by
  intro n
  induction n with
  | zero =>
    intro d h
    cases d <;> simp only [okd, Bool.false_eq_true] at h <;> simp [toPy, PyData.canLay0, PyData.depth]
    exact h
  | succ n ih =>
    intro d h
    cases d <;> simp only [okd, Bool.false_eq_true] at h
    case tup ds =>
      have h' := List.all_eq_true.mp h
      refine ⟨?_, ?_⟩
      · rw [toPy, PyData.canLay0]; exact canLays fun d hd => (ih d (h' d hd)).1
      · rw [toPy, PyData.depth]; exact Nat.succ_le_succ (depths fun d hd => (ih d (h' d hd)).2)
    case lst ds =>
      have h' := List.all_eq_true.mp h
      refine ⟨?_, ?_⟩
      · rw [toPy, PyData.canLay0]; exact canLays fun d hd => (ih d (h' d hd)).1
      · rw [toPy, PyData.depth]; exact Nat.succ_le_succ (depths fun d hd => (ih d (h' d hd)).2)
    all_goals simp [toPy, PyData.canLay0, PyData.depth]
    exact h
theorem shaped_of {n : Nat} {d : D} (h : okd n d = true) (hn : n ≤ 64) : SeqAt.shaped (toPy d) = true := by
  obtain ⟨h1, h2⟩ := okd_py n d h
  unfold SeqAt.shaped
  rw [h1, decide_eq_true (Nat.le_trans h2 hn)]; rfl
section
variable {K : PySem.W.Frag} {q : Qa} {H : Hp}
theorem dp_of : ∀ (n : Nat) (d : D) (v : V), okd n d = true → Rep K q H v d → Dp K H v (toPy d) := by
  intro n
  induction n with
  | zero =>
    intro d v h r
    cases d <;> simp only [okd, Bool.false_eq_true] at h
    · cases r; rw [toPy]; exact .non
    · cases r; rw [toPy]; exact .bl _
    · cases r; rw [toPy]; exact .int _
    · cases r; rw [toPy]; exact .str _
  | succ n ih =>
    have all : ∀ (ds : List D) (vs : List V), ds.all (okd n) = true → Reps K q H vs ds → DpAll K H vs (toPys ds) := by
      intro ds
      induction ds with
      | nil => intro vs _ r; cases r; rw [toPys]; exact .nil
      | cons d ds ihs =>
        intro vs h r
        rw [List.all_cons, Bool.and_eq_true] at h
        cases r with
        | cons r1 r2 => rw [toPys]; exact .cons (ih d _ h.1 r1) (ihs _ h.2 r2)
    intro d v h r
    cases d <;> simp only [okd, Bool.false_eq_true] at h
    · cases r; rw [toPy]; exact .non
    · cases r; rw [toPy]; exact .bl _
    · cases r; rw [toPy]; exact .int _
    · cases r; rw [toPy]; exact .str _
    · cases r with | tup e rs => rw [toPy]; exact .tup e.sq (all _ _ h rs)
    · cases r with | lst e rs => rw [toPy]; exact .lst (.inl (.inl e)) (all _ _ h rs)
end
def eqD (x y : D) : Bool := PyData.eqv (toPy x) (toPy y)
def dEq (x y : D) : Option D := if (okd 60 x && okd 60 y) = true then some (.bl (eqD x y)) else none
def dNe (x y : D) : Option D := if (okd 60 x && okd 60 y) = true then some (.bl (!eqD x y)) else none
theorem eq_pure {K : PySem.W.Frag} : Pure2 K (rEqD K) dEq := by
  intro q F H ω x y a b d Q hs ho hx hy e k
  unfold dEq at e
  split at e
  · rename_i h
    rw [Bool.and_eq_true] at h
    cases e
    exact ⟨toPy a, toPy b, dp_of _ _ _ h.1 (hx.repH hs (okd_nd h.1)), dp_of _ _ _ h.2 (hy.repH hs (okd_nd h.2)), shaped_of h.1 (by decide), shaped_of h.2 (by decide), k F H _ (.mk0 hs ho) (.bl _)⟩
  · cases e
theorem ne_pure {K : PySem.W.Frag} : Pure2 K (rNeD K) dNe := by
  intro q F H ω x y a b d Q hs ho hx hy e k
  unfold dNe at e
  split at e
  · rename_i h
    rw [Bool.and_eq_true] at h
    cases e
    exact ⟨toPy a, toPy b, dp_of _ _ _ h.1 (hx.repH hs (okd_nd h.1)), dp_of _ _ _ h.2 (hy.repH hs (okd_nd h.2)), shaped_of h.1 (by decide), shaped_of h.2 (by decide), k F H _ (.mk0 hs ho) (.bl _)⟩
  · cases e
/-! ### is -/
def isNonD : D → Bool
  | .non => true
  | _ => false
def dIsN (x y : D) : Option D := match y with
  | .non => some (.bl (isNonD x))
  | _ => none
def dNotN (x y : D) : Option D := match y with
  | .non => some (.bl (!isNonD x))
  | _ => none
theorem isNon_iff {K : PySem.W.Frag} {q : Qa} {F H : Hp} {x : V} {a : D} (h : Vw K q F H x a) : decide (x = .non) = isNonD a := by
  rcases h with h | ⟨p, rfl, _, _, h3⟩
  · cases h <;> rfl
  · cases a <;> first | exact h3.elim | rfl
theorem isN_pure {K : PySem.W.Frag} : Pure2 K (fun x y H Q => y = .non ∧ Q (.bl (decide (x = .non))) H) dIsN := by
  intro q F H ω x y a b d Q hs ho hx hy e k
  cases b <;> simp only [dIsN, reduceCtorEq] at e
  cases e
  refine ⟨hy.non, ?_⟩
  rw [isNon_iff hx]
  exact k F H _ (.mk0 hs ho) (.bl _)
theorem notN_pure {K : PySem.W.Frag} : Pure2 K (fun x y H Q => y = .non ∧ Q (.bl (!decide (x = .non))) H) dNotN := by
  intro q F H ω x y a b d Q hs ho hx hy e k
  cases b <;> simp only [dNotN, reduceCtorEq] at e
  cases e
  refine ⟨hy.non, ?_⟩
  rw [isNon_iff hx]
  exact k F H _ (.mk0 hs ho) (.bl _)
def dIsB : D → D → Option D
  | .bl a, .bl b => some (.bl (decide (a = b)))
  | _, _ => none
def dNotB : D → D → Option D
  | .bl a, .bl b => some (.bl (!decide (a = b)))
  | _, _ => none
theorem isB_pure {K : PySem.W.Frag} : Pure2 K rIsB dIsB := by
  intro q F H ω x y a b d Q hs ho hx hy e k
  cases a <;> cases b <;> simp only [dIsB, reduceCtorEq] at e
  cases e
  cases hx.bl
  cases hy.bl
  exact ⟨_, _, rfl, rfl, k F H _ (.mk0 hs ho) (.bl _)⟩
theorem notB_pure {K : PySem.W.Frag} : Pure2 K rNotB dNotB := by
  intro q F H ω x y a b d Q hs ho hx hy e k
  cases a <;> cases b <;> simp only [dNotB, reduceCtorEq] at e
  cases e
  cases hx.bl
  cases hy.bl
  exact ⟨_, _, rfl, rfl, k F H _ (.mk0 hs ho) (.bl _)⟩
/-! ### in -/
def inD (a : D) (ds : List D) : Bool := ds.any fun z => eqD z a
def dIn (a b : D) : Option D := match b with
  | .lst ds => if (okd 60 a && okd 60 (.lst ds)) = true then some (.bl (inD a ds)) else none
  | _ => none
def dNotIn (a b : D) : Option D := match b with
  | .lst ds => if (okd 60 a && okd 60 (.lst ds)) = true then some (.bl (!inD a ds)) else none
  | _ => none
theorem toPys_any (f : PyData → Bool) : ∀ ds : List D, (toPys ds).any f = ds.any fun z => f (toPy z)
  | [] => rfl
  | d :: ds => by rw [toPys, List.any_cons, List.any_cons, toPys_any f ds]
theorem in_pure {K : PySem.W.Frag} : Pure2 K (rInD K) dIn := by
  intro q F H ω x y a b d Q hs ho hx hy e k
  cases b <;> simp only [dIn, reduceCtorEq] at e
  split at e
  · rename_i h
    rw [Bool.and_eq_true] at h
    cases e
    have hy' := dp_of _ _ _ h.2 (hy.repH hs (okd_nd h.2))
    have sy := shaped_of h.2 (by decide)
    rw [toPy] at hy' sy
    refine ⟨toPy a, toPys _, dp_of _ _ _ h.1 (hx.repH hs (okd_nd h.1)), hy', shaped_of h.1 (by decide), sy, ?_⟩
    rw [toPys_any]
    exact k F H _ (.mk0 hs ho) (.bl _)
  · cases e
theorem notIn_pure {K : PySem.W.Frag} : Pure2 K (rNotInD K) dNotIn := by
  intro q F H ω x y a b d Q hs ho hx hy e k
  cases b <;> simp only [dNotIn, reduceCtorEq] at e
  split at e
  · rename_i h
    rw [Bool.and_eq_true] at h
    cases e
    have hy' := dp_of _ _ _ h.2 (hy.repH hs (okd_nd h.2))
    have sy := shaped_of h.2 (by decide)
    rw [toPy] at hy' sy
    refine ⟨toPy a, toPys _, dp_of _ _ _ h.1 (hx.repH hs (okd_nd h.1)), hy', shaped_of h.1 (by decide), sy, ?_⟩
    rw [toPys_any]
    exact k F H _ (.mk0 hs ho) (.bl _)
  · cases e
/-- an int in a tuple of ints -/
def dInT (a b : D) : Option D := match a, b with
  | .int i, .tup ds => (intsOf ds).map fun ns => .bl (ns.any fun n => n == i)
  | _, _ => none
def dNotInT (a b : D) : Option D := match a, b with
  | .int i, .tup ds => (intsOf ds).map fun ns => .bl (!ns.any fun n => n == i)
  | _, _ => none
theorem all_flat (ns : List Int) : (ns.map V.int).all flatV = true := by
  rw [List.all_eq_true]
  intro v hv
  obtain ⟨n, _, rfl⟩ := List.mem_map.mp hv
  rfl
theorem inV_ints (i : Int) (ns : List Int) : inV (.int i) (ns.map V.int) = ns.any fun n => n == i := by
  unfold inV
  rw [List.any_map]
  rfl
theorem inT_pure {K : PySem.W.Frag} : Pure2 K (rIn K false) dInT := by
  intro q F H ω x y a b d Q hs ho hx hy e k
  cases a <;> cases b <;> simp only [dInT, reduceCtorEq, Option.map_eq_some_iff] at e
  obtain ⟨ns, e1, rfl⟩ := e
  have e2 := intsOf_eq e1
  subst e2
  cases hx.int
  obtain ⟨p, vs, rfl, h1, r1⟩ := hy.tup hs
  cases r1.ints
  refine ⟨p, _, rfl, .inr h1, rfl, all_flat ns, ?_⟩
  rw [inV_ints]
  exact k F H _ (.mk0 hs ho) (.bl _)
theorem notInT_pure {K : PySem.W.Frag} : Pure2 K (rIn K true) dNotInT := by
  intro q F H ω x y a b d Q hs ho hx hy e k
  cases a <;> cases b <;> simp only [dNotInT, reduceCtorEq, Option.map_eq_some_iff] at e
  obtain ⟨ns, e1, rfl⟩ := e
  have e2 := intsOf_eq e1
  subst e2
  cases hx.int
  obtain ⟨p, vs, rfl, h1, r1⟩ := hy.tup hs
  cases r1.ints
  refine ⟨p, _, rfl, .inr h1, rfl, all_flat ns, ?_⟩
  rw [inV_ints]
  exact k F H _ (.mk0 hs ho) (.bl _)
end FL
end
section
/-! FL: tests, subscripts, slices, built-ins. -/
namespace FL
open PySem PySem.Spec PyProof.Rows L2

section
variable {X : Cx} {e a b : Expr} {f g : EF} {pos : Pos} {rest : List Expr}
theorem pw_weak {t t' : TT} (h : PW X e t) (i : ∀ σ H Q, t' σ H Q → t σ H Q) : PW X e t' := ⟨fun wh pins s σ H Q I q => h.run wh pins s σ H Q I (i σ H Q q)⟩
def andB (f g : BF) : BF := fun ρ => bnd (f ρ) fun x => bif x then g ρ else ret false
def orB (f g : BF) : BF := fun ρ => bnd (f ρ) fun x => bif x then ret true else g ρ
def notB (f : BF) : BF := fun ρ => bnd (f ρ) fun x => ret (!x)
theorem w_and1 {f : BF} (h : PT X a (tT' X.K f)) : PW X (.BoolOp .And [a] pos) (tT' X.K f) := pw_and1 h
theorem w_or1 {f : BF} (h : PT X a (tT' X.K f)) : PW X (.BoolOp .Or [a] pos) (tT' X.K f) := pw_or1 h
theorem w_and {f g : BF} (h : PT X a (tT' X.K f)) (hb : PW X (.BoolOp .And (b :: rest) pos) (tT' X.K g)) : PW X (.BoolOp .And (a :: b :: rest) pos) (tT' X.K (andB f g)) := pw_weak (pw_and h hb) fun σ H Q ⟨c, F, ρ, ω, d, ω', w, e, q⟩ => by
  obtain ⟨x, ω1, e1, e⟩ := bnd_some e
  refine ⟨c, F, ρ, ω, x, ω1, w, e1, fun F1 H1 p1 => ?_⟩
  cases x with
  | true => exact iteT ⟨c, F1, ρ, ω1, d, ω', w.ext p1, e, fun F2 H2 p2 => q F2 H2 (p1.trans p2)⟩
  | false =>
    obtain ⟨rfl, rfl⟩ := ret_some e
    exact iteF (q F1 H1 p1)
theorem w_or {f g : BF} (h : PT X a (tT' X.K f)) (hb : PW X (.BoolOp .Or (b :: rest) pos) (tT' X.K g)) : PW X (.BoolOp .Or (a :: b :: rest) pos) (tT' X.K (orB f g)) := pw_weak (pw_or h hb) fun σ H Q ⟨c, F, ρ, ω, d, ω', w, e, q⟩ => by
  obtain ⟨x, ω1, e1, e⟩ := bnd_some e
  refine ⟨c, F, ρ, ω, x, ω1, w, e1, fun F1 H1 p1 => ?_⟩
  cases x with
  | false => exact iteF ⟨c, F1, ρ, ω1, d, ω', w.ext p1, e, fun F2 H2 p2 => q F2 H2 (p1.trans p2)⟩
  | true =>
    obtain ⟨rfl, rfl⟩ := ret_some e
    exact iteT (q F1 H1 p1)
theorem t_not {f : BF} (h : PT X a (tT' X.K f)) : PT X (.UnaryOp .Not a pos) (tT' X.K (notB f)) := pt_weak (pt_not h) fun σ H Q ⟨c, F, ρ, ω, d, ω', w, e, q⟩ => by
  obtain ⟨x, ω1, e1, e⟩ := bnd_some e
  obtain ⟨rfl, rfl⟩ := ret_some e
  exact ⟨c, F, ρ, ω, x, _, w, e1, fun F1 H1 p1 => q F1 H1 p1⟩
/-- truth -/
def truD : D → Option Bool
  | .non => some false
  | .bl b => some b
  | .int i => some (i != 0)
  | .tup ds => some (!ds.isEmpty)
  | .lst ds => some (!ds.isEmpty)
  | _ => none
def truB (f : EF) : BF := fun ρ => bnd (f ρ) fun x => opt (truD x)
theorem isEmpty_reps {K : PySem.W.Frag} {q : Qa} {F : Hp} {vs : List V} {ds : List D} (r : Reps K q F vs ds) : (!ds.isEmpty) = !vs.isEmpty := by
  cases r <;> rfl
theorem t_tru (h : PE X a (tB X.K f)) (he : ∀ whole, isTrue a X.env whole = (do let v ← whole; standAt a.pos; holding [v] (truthy v)) := by intro _; rfl) : PT X a (tT' X.K (truB f)) := pt_weak (pt_truth h he) fun σ H Q ⟨c, F, ρ, ω, d, ω', w, e, q⟩ => by
  obtain ⟨x, ω1, e1, e⟩ := bnd_some e
  obtain ⟨e3, rfl⟩ := opt_some e
  refine ⟨c, F, ρ, ω, x, _, w, e1, fun F1 H1 v p1 r1 => ⟨d, ?_, q F1 H1 p1⟩⟩
  cases x <;> simp only [truD, reduceCtorEq, Option.some.injEq] at e3
  · cases r1.non; exact e3.symm
  · cases r1.bl; exact e3.symm
  · cases r1.int; exact e3.symm
  · obtain ⟨p, vs, rfl, h1, r⟩ := r1.tup p1.le
    exact .inr (.inl ⟨vs, h1, by rw [← e3]; exact isEmpty_reps r⟩)
  · obtain ⟨p, vs, rfl, h1, r⟩ := r1.lst p1.le
    exact .inl ⟨vs, .inl (.inl h1), by rw [← e3]; exact isEmpty_reps r⟩
/-- and, or, not as values: bools but the last -/
def andV (f g : EF) : EF := fun ρ => bnd (f ρ) fun x => match x with
  | .bl true => g ρ
  | .bl false => ret (.bl false)
  | _ => opt none
def orV (f g : EF) : EF := fun ρ => bnd (f ρ) fun x => match x with
  | .bl true => ret (.bl true)
  | .bl false => g ρ
  | _ => opt none
def notV (f : EF) : EF := fun ρ => bnd (f ρ) fun x => match x with
  | .bl b => ret (.bl (!b))
  | _ => opt none
theorem e_one {op} (h : PE X a (tE X.K f)) : PE X (.BoolOp op [a] pos) (tE X.K f) := pe_one h
theorem e_and (h : PE X a (tE X.K f)) (hb : PE X (.BoolOp .And (b :: rest) pos) (tE X.K g)) : PE X (.BoolOp .And (a :: b :: rest) pos) (tE X.K (andV f g)) := pe_weak (pe_and h hb) fun σ H Q ⟨c, F, ρ, ω, d, ω', w, e, q⟩ => by
  obtain ⟨x, ω1, e1, e⟩ := bnd_some e
  refine ⟨c, F, ρ, ω, x, ω1, w, e1, fun F1 H1 v p1 r1 => ?_⟩
  split at e
  · cases r1
    exact ⟨true, rfl, iteT ⟨c, F1, ρ, ω1, d, ω', w.ext p1, e, fun F2 H2 v p2 r2 => q F2 H2 v (p1.trans p2) r2⟩⟩
  · obtain ⟨rfl, rfl⟩ := ret_some e
    cases r1
    exact ⟨false, rfl, iteF (q F1 H1 _ p1 (.bl _))⟩
  · cases e
theorem e_or (h : PE X a (tE X.K f)) (hb : PE X (.BoolOp .Or (b :: rest) pos) (tE X.K g)) : PE X (.BoolOp .Or (a :: b :: rest) pos) (tE X.K (orV f g)) := pe_weak (pe_or h hb) fun σ H Q ⟨c, F, ρ, ω, d, ω', w, e, q⟩ => by
  obtain ⟨x, ω1, e1, e⟩ := bnd_some e
  refine ⟨c, F, ρ, ω, x, ω1, w, e1, fun F1 H1 v p1 r1 => ?_⟩
  split at e
  · obtain ⟨rfl, rfl⟩ := ret_some e
    cases r1
    exact ⟨true, rfl, iteT (q F1 H1 _ p1 (.bl _))⟩
  · cases r1
    exact ⟨false, rfl, iteF ⟨c, F1, ρ, ω1, d, ω', w.ext p1, e, fun F2 H2 v p2 r2 => q F2 H2 v (p1.trans p2) r2⟩⟩
  · cases e
theorem e_not (h : PE X a (tE X.K f)) : PE X (.UnaryOp .Not a pos) (tE X.K (notV f)) := pe_weak (pe_not h) fun σ H Q ⟨c, F, ρ, ω, d, ω', w, e, q⟩ => by
  obtain ⟨x, ω1, e1, e⟩ := bnd_some e
  refine ⟨c, F, ρ, ω, x, ω1, w, e1, fun F1 H1 v p1 r1 => ?_⟩
  split at e
  · obtain ⟨rfl, rfl⟩ := ret_some e
    cases r1
    exact ⟨_, rfl, q F1 H1 _ p1 (.bl _)⟩
  · cases e
/-- a if t else b -/
def ifE (t : BF) (f g : EF) : EF := fun ρ => bnd (t ρ) fun x => bif x then f ρ else g ρ
theorem e_if {c : Expr} {t : BF} (hc : PT X c (tT' X.K t)) (ha : PE X a (tE X.K f)) (hb : PE X b (tE X.K g)) : PE X (.IfExp c a b pos) (tE X.K (ifE t f g)) := pe_weak (pe_ifExp hc ha hb) fun σ H Q ⟨c, F, ρ, ω, d, ω', w, e, q⟩ => by
  obtain ⟨x, ω1, e1, e⟩ := bnd_some e
  refine ⟨c, F, ρ, ω, x, ω1, w, e1, fun F1 H1 p1 => ?_⟩
  cases x with
  | true => exact iteT ⟨c, F1, ρ, ω1, d, ω', w.ext p1, e, fun F2 H2 v p2 r2 => q F2 H2 v (p1.trans p2) r2⟩
  | false => exact iteF ⟨c, F1, ρ, ω1, d, ω', w.ext p1, e, fun F2 H2 v p2 r2 => q F2 H2 v (p1.trans p2) r2⟩

/-! ### a chain of two comparisons of ints -/
def chain (p r : Int → Int → Bool) (f g h : EF) : EF := fun ρ => bnd (f ρ) fun x => bnd (g ρ) fun y => match x, y with
  | .int i, .int j => bif p i j then bnd (h ρ) (fun z => match z with
    | .int k => ret (.bl (r j k))
    | _ => opt none) else ret (.bl false)
  | _, _ => opt none
theorem chain_core {K : PySem.W.Frag} {p r : Int → Int → Bool} {f g h : EF} {σ : L2.St} {H : Hp} {Q : VK} (hh : tE K (chain p r f g h) σ H Q) :
    tB K f σ H fun x H1 => tB K g σ H1 fun y H2 => rI0 (fun i j => .bl (p i j)) x y H2 fun z H3 => ∃ k, z = .bl k ∧ (if k = true then tB K h σ H3 fun w' H4 => rI0 (fun i j => .bl (r i j)) y w' H4 Q else Q (.bl false) H3) := by
  obtain ⟨c, F, ρ, ω, d, ω', w, e, q⟩ := hh
  obtain ⟨x, ω1, e1, e⟩ := bnd_some e
  obtain ⟨y, ω2, e2, e⟩ := bnd_some e
  refine ⟨c, F, ρ, ω, x, ω1, w, e1, fun F1 H1 v p1 r1 => ⟨c, F1, ρ, ω1, y, ω2, w.ext p1, e2, fun F2 H2 u p2 r2 => ?_⟩⟩
  cases x with
  | int i =>
    cases y with
    | int j =>
      cases (r1.ext p2).int
      cases r2.int
      refine ⟨_, _, rfl, rfl, _, rfl, ?_⟩
      dsimp only at e
      cases hp : p i j with
      | false =>
        rw [hp] at e
        obtain ⟨rfl, rfl⟩ := ret_some e
        exact iteF (q F2 H2 _ (p1.trans p2) (.bl _))
      | true =>
        rw [hp] at e
        obtain ⟨z, ω3, e3, e⟩ := bnd_some e
        refine iteT ⟨c, F2, ρ, ω2, z, ω3, (w.ext p1).ext p2, e3, fun F3 H3 t p3 r3 => ?_⟩
        cases z with
        | int k =>
          obtain ⟨rfl, rfl⟩ := ret_some e
          cases r3.int
          exact ⟨_, _, rfl, rfl, q F3 H3 _ ((p1.trans p2).trans p3) (.bl _)⟩
        | _ => cases e
    | _ => cases e
  | _ => cases y <;> cases e
theorem e_chain {c : Expr} {p r : Int → Int → Bool} {op op' : CmpOp} {h : EF} (ho : OpR X (compareOp op) (rI0 fun i j => .bl (p i j))) (ho' : OpR X (compareOp op') (rI0 fun i j => .bl (r i j))) (ha : PE X a (tB X.K f)) (hb : PE X b (tB X.K g)) (hc : PE X c (tB X.K h)) (hm : lastMarks [op, op'] [b, c] = false := by with_unfolding_all rfl) : PE X (.Compare a [op, op'] [b, c] pos) (tE X.K (chain p r f g h)) :=
  pe_weak (pe_chain ho ho' ha hb hc (hm := hm)) fun σ H Q h => chain_core h
theorem t_chain {c : Expr} {p r : Int → Int → Bool} {op op' : CmpOp} {h : EF} (ho : OpR X (compareOp op) (rI0 fun i j => .bl (p i j))) (ho' : OpR X (compareOp op') (rI0 fun i j => .bl (r i j))) (ha : PE X a (tB X.K f)) (hb : PE X b (tB X.K g)) (hc : PE X c (tB X.K h)) (hm : lastMarks [op, op'] [b, c] = false := by with_unfolding_all rfl) : PT X (.Compare a [op, op'] [b, c] pos) (tT' X.K (isB (chain p r f g h))) :=
  pt_weak (pt_chain ho ho' ha hb hc (hm := hm)) fun σ H Q h => chain_core (isB_of h)

/-! ### subscripts, slices -/
def dIx : D → D → Option D
  | .lst ds, .int i => atI ds i
  | .tup ds, .int i => atI ds i
  | _, _ => none
theorem atI_reps {K : PySem.W.Frag} {q : Qa} {F : Hp} {vs : List V} {ds : List D} {i : Int} {d : D} (r : Reps K q F vs ds) (h : atI ds i = some d) : ∃ v, atI vs i = some v ∧ Rep K q F v d := by
  unfold atI at h ⊢
  rw [← r.length] at h
  cases e : ixN vs.length i with
  | none => rw [e] at h; cases h
  | some j =>
    rw [e] at h
    exact r.get h
theorem ix_pure {K : PySem.W.Frag} : Pure2 K (rIx K) dIx := by
  intro q F H ω x y a b d Q hs ho hx hy e k
  cases a <;> cases b <;> simp only [dIx, reduceCtorEq] at e
  · cases hy.int
    obtain ⟨p, vs, rfl, h1, r⟩ := hx.tup hs
    obtain ⟨v, h2, h3⟩ := atI_reps r e
    exact .inr (.inl ⟨p, vs, _, v, rfl, rfl, h1, h2, k F H v (.mk0 hs ho) h3⟩)
  · cases hy.int
    obtain ⟨p, vs, rfl, h1, r⟩ := hx.lst hs
    obtain ⟨v, h2, h3⟩ := atI_reps r e
    exact .inl ⟨p, vs, _, v, rfl, rfl, .inl (.inl h1), h2, k F H v (.mk0 hs ho) h3⟩
theorem e_ix (ha : PE X a (tB X.K f)) (hb : PE X b (tB X.K g)) (hs : PlainIx b := by exact fun _ _ => rfl) : PE X (.Subscript a b pos) (tE X.K (b2 dIx f g)) :=
  pe_weak (pe_ix ix_seq ha hb hs) (two_core ix_pure (fun _ _ _ h => h) (fun _ _ _ h => h))
abbrev OF := Env → M (Option Int)
def tO (K : PySem.W.Frag) (f : OF) : TO := fun σ H Q => ∃ c F ρ ω d ω', W K c F H σ ρ ω ∧ f ρ ω = some (d, ω') ∧ ∀ F' H', Post c.q F H F' H' ω' → Q d H'
def oN : OF := fun _ => ret none
def oS (f : EF) : OF := fun ρ => bnd (f ρ) fun x => match x with
  | .int i => ret (some i)
  | _ => opt none
theorem po_weak {e : Option Expr} {t t' : TO} (h : PO X e t) (i : ∀ σ H Q, t' σ H Q → t σ H Q) : PO X e t' := ⟨fun pins s σ H Q I q => h.run pins s σ H Q I (i σ H Q q)⟩
theorem o_none : PO X none (tO X.K oN) := po_weak po_none fun σ H Q ⟨c, F, ρ, ω, d, ω', w, e, q⟩ => by
  obtain ⟨rfl, rfl⟩ := ret_some e
  exact q F H w.self
theorem o_some (h : PE X a (tB X.K f)) : PO X (some a) (tO X.K (oS f)) := po_weak (po_some h) fun σ H Q ⟨c, F, ρ, ω, d, ω', w, e, q⟩ => by
  obtain ⟨x, ω1, e1, e⟩ := bnd_some e
  refine ⟨c, F, ρ, ω, x, ω1, w, e1, fun F1 H1 v p1 r1 => ?_⟩
  split at e
  · obtain ⟨rfl, rfl⟩ := ret_some e
    exact ⟨_, r1.int, q F1 H1 p1⟩
  · cases e
def cutD {α : Type} (xs : List α) (lo hi : Option Int) : List α := (xs.drop (HT.sIx xs.length 0 lo)).take (HT.sIx xs.length xs.length hi - HT.sIx xs.length 0 lo)
theorem cut_reps {K : PySem.W.Frag} {q : Qa} {F : Hp} {vs : List V} {ds : List D} (lo hi : Option Int) (r : Reps K q F vs ds) : Reps K q F (cutV vs lo hi) (cutD ds lo hi) := by
  unfold cutV cutD
  rw [r.length]
  exact (r.drop _).take _
def dSl (x : D) (lo hi : Option Int) : Option D := match x with
  | .lst ds => some (.lst (cutD ds lo hi))
  | .tup ds => some (.tup (cutD ds lo hi))
  | _ => none
def dSlL (x : D) (lo hi : Option Int) : Option D := match x with
  | .lst ds => some (.lst (cutD ds lo hi))
  | _ => none
def slE (o : D → Option Int → Option Int → Option D) (f : EF) (g h : OF) : EF := fun ρ => bnd (f ρ) fun x => bnd (g ρ) fun y => bnd (h ρ) fun z => opt (o x y z)
variable {lo hi : Option Expr} {gl gh : OF} {p2 : Pos}
theorem cut_whole {α : Type} (xs : List α) (lo hi : Option Int) (h1 : HT.sIx xs.length 0 lo = 0) (h2 : HT.sIx xs.length xs.length hi = xs.length) : cutD xs lo hi = xs := by
  unfold cutD
  rw [h1, h2, List.drop_zero, Nat.sub_zero, List.take_length]
theorem e_slice (ha : PE X a (tB X.K f)) (hl : PO X lo (tO X.K gl)) (hh : PO X hi (tO X.K gh)) : PE X (.Subscript a (.Slice lo hi none p2) pos) (tE X.K (slE dSl f gl gh)) :=
  pe_weak (pe_slice (sl_list.or sl_tupA) ha hl hh) fun σ H Q ⟨c, F, ρ, ω, d, ω', w, e, q⟩ => by
    obtain ⟨x, ω1, e1, e⟩ := bnd_some e
    obtain ⟨y, ω2, e2, e⟩ := bnd_some e
    obtain ⟨z, ω3, e3, e⟩ := bnd_some e
    obtain ⟨e4, rfl⟩ := opt_some e
    refine ⟨c, F, ρ, ω, x, ω1, w, e1, fun F1 H1 v p1 r1 => ⟨c, F1, ρ, ω1, y, ω2, w.ext p1, e2, fun F2 H2 p2 => ⟨c, F2, ρ, ω2, z, _, (w.ext p1).ext p2, e3, fun F3 H3 p3 => ?_⟩⟩⟩
    have r3 := (r1.ext p2).ext p3
    have pp := (p1.trans p2).trans p3
    cases x <;> simp only [dSl, reduceCtorEq, Option.some.injEq] at e4
    · subst e4
      have rr := r3.rep_of (fun p h => h)
      obtain ⟨p, vs, rfl, h1, r⟩ := r3.tup p3.le
      refine .inr ⟨p, vs, rfl, h1, fun hw => ?_, fun _ t ht => ?_⟩
      · rw [cut_whole _ _ _ (by rw [← r.length]; exact hw.1) (by rw [← r.length]; exact hw.2)] at q
        exact q F3 H3 _ pp rr
      · exact q _ _ _ (pp.trans (Post.alloc p3.le p3.ora ht)) (.tup upd_same ((cut_reps _ _ r).mono (same_new (same_none p3.le ht))))
    · subst e4
      obtain ⟨p, vs, rfl, h1, r⟩ := r3.lst p3.le
      refine .inl ⟨p, vs, rfl, .inl (.inl h1), fun t ht => ?_⟩
      exact q _ _ _ (pp.trans (Post.alloc p3.le p3.ora ht)) (.lst upd_same ((cut_reps _ _ r).mono (same_new (same_none p3.le ht))))
theorem f_slice (ha : PE X a (tB X.K f)) (hl : PO X lo (tO X.K gl)) (hh : PO X hi (tO X.K gh)) : PE X (.Subscript a (.Slice lo hi none p2) pos) (tF X.K (slE dSlL f gl gh)) :=
  pe_weak (pe_slice sl_list ha hl hh) fun σ H Q ⟨c, F, ρ, ω, d, ω', w, e, q⟩ => by
    obtain ⟨x, ω1, e1, e⟩ := bnd_some e
    obtain ⟨y, ω2, e2, e⟩ := bnd_some e
    obtain ⟨z, ω3, e3, e⟩ := bnd_some e
    obtain ⟨e4, rfl⟩ := opt_some e
    refine ⟨c, F, ρ, ω, x, ω1, w, e1, fun F1 H1 v p1 r1 => ⟨c, F1, ρ, ω1, y, ω2, w.ext p1, e2, fun F2 H2 p2 => ⟨c, F2, ρ, ω2, z, _, (w.ext p1).ext p2, e3, fun F3 H3 p3 => ?_⟩⟩⟩
    have r3 := (r1.ext p2).ext p3
    have pp := (p1.trans p2).trans p3
    cases x <;> simp only [dSlL, reduceCtorEq, Option.some.injEq] at e4
    subst e4
    obtain ⟨p, vs, rfl, h1, r⟩ := r3.lst p3.le
    refine ⟨p, vs, rfl, .inl (.inl h1), fun t ht => ?_⟩
    exact q _ _ _ (pp.trans (Post.fresh p3.le p3.ora ht)) (none_back pp ht) (same_none p3.le ht) ⟨_, upd_same, cut_reps _ _ r⟩
/-- xs[::-1] of a list -/
def dRev : D → Option D
  | .lst ds => some (.lst ds.reverse)
  | _ => none
theorem f_rev {k : Nat} {q1 q2 q3 : Pos} (ha : PE X a (tB X.K f)) : PE X (.Subscript a (.Slice none none (some (.UnaryOp .USub (.Constant (.int 1) k q1) q2)) q3) pos) (tF X.K (b1 dRev f)) :=
  pe_weak (pe_revL ha) fun σ H Q ⟨c, F, ρ, ω, d, ω', w, e, q⟩ => by
    obtain ⟨x, ω1, e1, e⟩ := bnd_some e
    obtain ⟨e4, rfl⟩ := opt_some e
    refine ⟨c, F, ρ, ω, x, _, w, e1, fun F1 H1 v p1 r1 => ?_⟩
    cases x <;> simp only [dRev, reduceCtorEq, Option.some.injEq] at e4
    subst e4
    obtain ⟨p, vs, rfl, h1, r⟩ := r1.lst p1.le
    refine ⟨p, vs, rfl, .inl (.inl h1), fun t ht => ?_⟩
    exact q _ _ _ (p1.trans (Post.fresh p1.le p1.ora ht)) (none_back p1 ht) (same_none p1.le ht) ⟨_, upd_same, r.reverse⟩
end

/-! ### built-ins -/
section
variable {K : PySem.W.Frag}
def aLen : List D → Option D
  | [d] => (seqD d).map fun ds => .int ds.length
  | _ => none
abbrev rLen (K : PySem.W.Frag) : List V → Hp → VK → Prop := fun xs H Q => ∃ p ys, xs = [.ref p] ∧ (SqL K H p ys ∨ SqT K H p ys) ∧ Q (.int ys.length) H
theorem len_pure : PureA K (rLen K) aLen := by
  intro q F H ω xs a d Q hs ho hx e k
  match a, hx, e with
  | [x], hx, e =>
    simp only [aLen, Option.map_eq_some_iff] at e
    obtain ⟨ds, e1, rfl⟩ := e
    obtain ⟨v, rfl, hv⟩ := hx.one
    obtain ⟨p, vs, rfl, h1, r⟩ := hv.seq hs e1
    refine ⟨p, vs, rfl, h1, ?_⟩
    rw [r.length]
    exact k F H _ (.mk0 hs ho) (.int _)
def aList : List D → Option D
  | [d] => (seqD d).map .lst
  | _ => none
abbrev rListA (K : PySem.W.Frag) : List V → Hp → VK → Prop := fun xs H Q => ∃ p ys, xs = [.ref p] ∧ (SqL K H p ys ∨ SqT K H p ys) ∧ ∀ l, H l = none → Q (.ref l) (upd H l (.lst ys))
theorem list_pureF : PureAF K (rListA K) aList := by
  intro q F H ω xs a d Q hs ho hx e k
  match a, hx, e with
  | [x], hx, e =>
    simp only [aList, Option.map_eq_some_iff] at e
    obtain ⟨ds, e1, rfl⟩ := e
    obtain ⟨v, rfl, hv⟩ := hx.one
    obtain ⟨p, vs, rfl, h1, r⟩ := hv.seq hs e1
    exact ⟨p, vs, rfl, h1, fun l hl => k F _ l (Post.fresh hs ho hl) hl (same_none hs hl) ⟨vs, upd_same, r⟩⟩
def aTuple : List D → Option D
  | [d] => (seqD d).map .tup
  | _ => none
abbrev rTupA (K : PySem.W.Frag) : List V → Hp → VK → Prop := fun xs H Q => ∃ p ys, xs = [.ref p] ∧ ((SqL K H p ys ∧ ∀ l, H l = none → Q (.ref l) (upd H l (.tup ys))) ∨ (SqT K H p ys ∧ Q (.ref p) H))
theorem tuple_pure : PureA K (rTupA K) aTuple := by
  intro q F H ω xs a d Q hs ho hx e k
  match a, hx, e with
  | [x], hx, e =>
    simp only [aTuple, Option.map_eq_some_iff] at e
    obtain ⟨ds, e1, rfl⟩ := e
    obtain ⟨v, rfl, hv⟩ := hx.one
    rcases seqD_some e1 with rfl | rfl
    · obtain ⟨p, vs, rfl, h1, r⟩ := hv.lst hs
      exact ⟨p, vs, rfl, .inl ⟨.inl (.inl h1), fun l hl => k _ _ _ (Post.alloc hs ho hl) (.tup upd_same (r.mono (same_new (same_none hs hl))))⟩⟩
    · have hv' := hv.rep_of (fun p h => h)
      obtain ⟨p, vs, rfl, h1, r⟩ := hv.tup hs
      exact ⟨p, vs, rfl, .inr ⟨h1, k F H _ (.mk0 hs ho) hv'⟩⟩
/-- ints of a list or tuple -/
def intsD (d : D) : Option (List Int) := (seqD d).bind intsOf
theorem intsD_some {d : D} {ns : List Int} (h : intsD d = some ns) : d = .lst (ns.map .int) ∨ d = .tup (ns.map .int) := by
  unfold intsD at h
  rw [Option.bind_eq_some_iff] at h
  obtain ⟨ds, h1, h2⟩ := h
  have := intsOf_eq h2
  subst this
  exact seqD_some h1
theorem Vw.ints {q : Qa} {F H : Hp} {v : V} {d : D} {ns : List Int} (hv : Vw K q F H v d) (hs : Same F H) (h : intsD d = some ns) : ∃ p, v = .ref p ∧ (SqL K H p (ns.map V.int) ∨ SqT K H p (ns.map V.int)) := by
  rcases intsD_some h with rfl | rfl
  · obtain ⟨p, vs, rfl, h1, r⟩ := hv.lst hs
    cases r.ints
    exact ⟨p, rfl, .inl (.inl (.inl h1))⟩
  · obtain ⟨p, vs, rfl, h1, r⟩ := hv.tup hs
    cases r.ints
    exact ⟨p, rfl, .inr h1⟩
/-- sum, max, min of a list or tuple of ints -/
abbrev rSumA (K : PySem.W.Frag) : List V → Hp → VK → Prop := fun vs H Q => ∃ (a : Addr) (ns : List Int), vs = [V.ref a] ∧ (SqL K H a (ns.map V.int) ∨ SqT K H a (ns.map V.int)) ∧ Q (.int ns.sum) H
abbrev rMaxA (K : PySem.W.Frag) : List V → Hp → VK → Prop := fun vs H Q => ∃ (a : Addr) (ns : List Int), vs = [V.ref a] ∧ (SqL K H a (ns.map V.int) ∨ SqT K H a (ns.map V.int)) ∧ 0 < ns.length ∧ ∀ m, m ∈ ns → (∀ y, y ∈ ns → y ≤ m) → Q (.int m) H
abbrev rMinA (K : PySem.W.Frag) : List V → Hp → VK → Prop := fun vs H Q => ∃ (a : Addr) (ns : List Int), vs = [V.ref a] ∧ (SqL K H a (ns.map V.int) ∨ SqT K H a (ns.map V.int)) ∧ 0 < ns.length ∧ ∀ m, m ∈ ns → (∀ y, y ∈ ns → m ≤ y) → Q (.int m) H
section
variable {prog : Program} {w : World} {A : Around} {E : Value → Shared → Prop} {s : Shared} {l : Addr} {its : List Value} {ns : List Int} {Q : Value → Shared → Prop}
theorem old_keptT {h' : Heap} (hk : ∀ b o, b ∉ [s.heap.objs.size] → (s.heap.push { cls := .type "tuple_iterator", data := .fields #[.ref l, .int 0 0] }).get? b = some o → h'.get? b = some o) :
    ∀ b o, s.heap.get? b = some o → h'.get? b = some o := fun b o e => by
  refine hk b o (fun hm => ?_) (Heap.get?_push_of_some _ e)
  rcases List.mem_cons.mp hm with e1 | hm
  · exact absurd (e1 ▸ Heap.lt_size e) (Nat.lt_irrefl _)
  · cases hm
theorem iter_tupleI {xs : Array Value} (hl : s.heap.IsTuple l xs)
    (h : ∀ s₂ : Shared, s₂ = { s with heap := s.heap.push { cls := .type "tuple_iterator", data := .fields #[.ref l, .int 0 0] } } →
      (s₂.heap.IsTupleIter s.heap.objs.size l 0 ∧ s₂.heap.IsTuple l xs) → (∀ b ∈ [s.heap.objs.size, l], b < s₂.heap.objs.size) → l ≠ s.heap.objs.size → Q (.ref s.heap.objs.size) s₂) :
    wpAny (model prog w) A (pyIter (.ref l)) Q E s := by
  have hlt : l < s.heap.objs.size := by obtain ⟨_, e, _⟩ := hl; exact Heap.lt_size e
  refine wpAny_pyIter_tuple hl (h _ rfl ⟨⟨_, Heap.get?_push_size _ rfl, rfl, rfl⟩, ?_⟩ (fun b hb => ?_) (Nat.ne_of_lt hlt))
  · obtain ⟨o, e, c⟩ := hl
    exact ⟨o, Heap.get?_push_of_some _ e, c⟩
  · show b < (s.heap.push _).objs.size
    rw [Heap.size_push]
    rcases List.mem_cons.mp hb with rfl | hb
    · exact Nat.lt_succ_self _
    · rcases List.mem_cons.mp hb with rfl | hb
      · exact Nat.lt_succ_of_lt hlt
      · cases hb
theorem sum_rawT (hh : A.handled = none) (hl : s.heap.IsTuple l its.toArray) (hi : IntsAre its ns)
    (h : ∀ h' tk t', (∀ b o, s.heap.get? b = some o → h'.get? b = some o) → Q (.int ns.sum t') { s with heap := h', toks := tk }) : wpAny (model prog w) A (call (.builtin "sum") [.ref l]) Q E s := by
  obtain ⟨xs, e⟩ := hi.allInts.items
  have hn : numsOf (intItems xs).toList = ns := by rw [← e]; exact hi.numsOf
  rw [nums_intItems] at hn
  rw [e] at hl
  refine call_sum_walkG (iter_tupleI hl fun s₂ e2 st hfp hlI => ?_)
  subst e2
  refine ⟨_, _, _, _, _, _, numAt xs, rfl, Walks.tuple (A := A.in1) hh _ l hlI (intItems xs), st, hfp, (fun _ _ => intItems_at), fun h' tk t' hk => ?_⟩
  have := h h' tk t' (old_keptT hk)
  rw [preSum_eq, List.take_of_length_le (by simp [intItems]), hn]
  exact this
theorem max_rawT (hh : A.handled = none) (hl : s.heap.IsTuple l its.toArray) (hi : IntsAre its ns) (hne : 0 < ns.length)
    (h : ∀ h' tk M t', (∀ b o, s.heap.get? b = some o → h'.get? b = some o) → M ∈ ns → (∀ a, a ∈ ns → a ≤ M) → Q (.int M t') { s with heap := h', toks := tk }) : wpAny (model prog w) A (call (.builtin "max") [.ref l]) Q E s := by
  obtain ⟨xs, e⟩ := hi.allInts.items
  have hn : numsOf (intItems xs).toList = ns := by rw [← e]; exact hi.numsOf
  rw [nums_intItems] at hn
  subst hn
  rw [e] at hl
  have hsz : 0 < xs.size := by simpa using hne
  refine call_max_walk (iter_tupleI hl fun s₂ e2 st hfp hlI => ?_)
  subst e2
  refine ⟨_, _, _, _, _, _, _, rfl, Walks.tuple (A := A.in1) hh _ l hlI (intItems xs), st, hfp, by simpa [intItems] using hsz, CmpOf.ints_gt (numAt xs) (fun _ _ => intItems_at), fun v h' tk hP hk => ?_⟩
  have hP' : (intItems xs)[argBest (fun i j => decide (numAt xs i > numAt xs j)) (xs.size - 1)]? = some v := by simpa [intItems] using hP
  obtain ⟨t, rfl⟩ := intItems_at hP'
  obtain ⟨h1, h2⟩ := argBest_gt (numAt xs) (xs.size - 1)
  refine h h' tk _ t (old_keptT hk) ?_ fun a ha => ?_
  · rw [numAt_eq]; exact PySem.getD_mem (by rw [List.length_map, Array.length_toList]; omega)
  · obtain ⟨j, hj, rfl⟩ := mem_getD ha
    rw [List.length_map, Array.length_toList] at hj
    rw [← numAt_eq]; exact h2 j (by omega)
theorem min_rawT (hh : A.handled = none) (hl : s.heap.IsTuple l its.toArray) (hi : IntsAre its ns) (hne : 0 < ns.length)
    (h : ∀ h' tk M t', (∀ b o, s.heap.get? b = some o → h'.get? b = some o) → M ∈ ns → (∀ a, a ∈ ns → M ≤ a) → Q (.int M t') { s with heap := h', toks := tk }) : wpAny (model prog w) A (call (.builtin "min") [.ref l]) Q E s := by
  obtain ⟨xs, e⟩ := hi.allInts.items
  have hn : numsOf (intItems xs).toList = ns := by rw [← e]; exact hi.numsOf
  rw [nums_intItems] at hn
  subst hn
  rw [e] at hl
  have hsz : 0 < xs.size := by simpa using hne
  refine call_min_walk (iter_tupleI hl fun s₂ e2 st hfp hlI => ?_)
  subst e2
  refine ⟨_, _, _, _, _, _, _, rfl, Walks.tuple (A := A.in1) hh _ l hlI (intItems xs), st, hfp, by simpa [intItems] using hsz, CmpOf.ints_lt (numAt xs) (fun _ _ => intItems_at), fun v h' tk hP hk => ?_⟩
  have hP' : (intItems xs)[argBest (fun i j => decide (numAt xs i < numAt xs j)) (xs.size - 1)]? = some v := by simpa [intItems] using hP
  obtain ⟨t, rfl⟩ := intItems_at hP'
  obtain ⟨h1, h2⟩ := argBest_lt (numAt xs) (xs.size - 1)
  refine h h' tk _ t (old_keptT hk) ?_ fun a ha => ?_
  · rw [numAt_eq]; exact PySem.getD_mem (by rw [List.length_map, Array.length_toList]; omega)
  · obtain ⟨j, hj, rfl⟩ := mem_getD ha
    rw [List.length_map, Array.length_toList] at hj
    rw [← numAt_eq]; exact h2 j (by omega)
end
variable {X : Cx}
theorem cr_sumA (hc : X.calm = true) : CallR X (.builtin "sum") (rSumA X.K) := by
  intro pins s σ H vs us Q I r h
  obtain ⟨a, ns, rfl, hs | hs, q⟩ := h
  · exact cr_sum hc pins s σ H _ us Q I r ⟨a, ns, rfl, hs, q⟩
  · obtain ⟨its, rv, hl, _⟩ := I.tuple hs
    rw [Vals.ref1 r]
    exact sum_rawT (I.ok.hd hc) (show s.heap.IsTuple a its.toArray from hl) rv.ints fun h' tk t' hk => ⟨.int _, H, I.kept hk, ⟨_, rfl⟩, q⟩
theorem cr_maxA (hc : X.calm = true) : CallR X (.builtin "max") (rMaxA X.K) := by
  intro pins s σ H vs us Q I r h
  obtain ⟨a, ns, rfl, hs | hs, hne, q⟩ := h
  · exact cr_max hc pins s σ H _ us Q I r ⟨a, ns, rfl, hs, hne, q⟩
  · obtain ⟨its, rv, hl, _⟩ := I.tuple hs
    rw [Vals.ref1 r]
    exact max_rawT (I.ok.hd hc) (show s.heap.IsTuple a its.toArray from hl) rv.ints hne fun h' tk m t' hk h1 h2 => ⟨.int _, H, I.kept hk, ⟨_, rfl⟩, q m h1 h2⟩
theorem cr_minA (hc : X.calm = true) : CallR X (.builtin "min") (rMinA X.K) := by
  intro pins s σ H vs us Q I r h
  obtain ⟨a, ns, rfl, hs | hs, hne, q⟩ := h
  · exact cr_min hc pins s σ H _ us Q I r ⟨a, ns, rfl, hs, hne, q⟩
  · obtain ⟨its, rv, hl, _⟩ := I.tuple hs
    rw [Vals.ref1 r]
    exact min_rawT (I.ok.hd hc) (show s.heap.IsTuple a its.toArray from hl) rv.ints hne fun h' tk m t' hk h1 h2 => ⟨.int _, H, I.kept hk, ⟨_, rfl⟩, q m h1 h2⟩
def aSum : List D → Option D
  | [d] => (intsD d).map fun ns => .int ns.sum
  | _ => none
theorem sum_pure : PureA K (rSumA K) aSum := by
  intro q F H ω xs a d Q hs ho hx e k
  match a, hx, e with
  | [x], hx, e =>
    simp only [aSum, Option.map_eq_some_iff] at e
    obtain ⟨ns, e1, rfl⟩ := e
    obtain ⟨v, rfl, hv⟩ := hx.one
    obtain ⟨p, rfl, h⟩ := hv.ints hs e1
    exact ⟨p, ns, rfl, h, k F H _ (.mk0 hs ho) (.int _)⟩
def maxL : List Int → Option Int
  | [] => none
  | n :: r => some (r.foldl max n)
def minL : List Int → Option Int
  | [] => none
  | n :: r => some (r.foldl min n)
theorem foldl_max_mem : ∀ (r : List Int) (n : Int), r.foldl max n ∈ n :: r ∧ ∀ y ∈ n :: r, y ≤ r.foldl max n := by
  intro r
  induction r with
  | nil => intro n; simp
  | cons m r ih =>
    intro n
    obtain ⟨h1, h2⟩ := ih (max n m)
    rw [List.foldl_cons]
    refine ⟨?_, fun y hy => ?_⟩
    · rcases List.mem_cons.mp h1 with h | h
      · rw [h]
        rcases Int.le_total n m with z | z
        · rw [Int.max_eq_right z]; simp
        · rw [Int.max_eq_left z]; simp
      · simp [h]
    · have h3 := h2 (max n m) (by simp)
      rcases List.mem_cons.mp hy with rfl | hy
      · exact Int.le_trans (Int.le_max_left ..) h3
      · rcases List.mem_cons.mp hy with rfl | hy
        · exact Int.le_trans (Int.le_max_right ..) h3
        · exact h2 y (by simp [hy])
theorem foldl_min_mem : ∀ (r : List Int) (n : Int), r.foldl min n ∈ n :: r ∧ ∀ y ∈ n :: r, r.foldl min n ≤ y := by
  intro r
  induction r with
  | nil => intro n; simp
  | cons m r ih =>
    intro n
    obtain ⟨h1, h2⟩ := ih (min n m)
    rw [List.foldl_cons]
    refine ⟨?_, fun y hy => ?_⟩
    · rcases List.mem_cons.mp h1 with h | h
      · rw [h]
        rcases Int.le_total n m with z | z
        · rw [Int.min_eq_left z]; simp
        · rw [Int.min_eq_right z]; simp
      · simp [h]
    · have h3 := h2 (min n m) (by simp)
      rcases List.mem_cons.mp hy with rfl | hy
      · exact Int.le_trans h3 (Int.min_le_left ..)
      · rcases List.mem_cons.mp hy with rfl | hy
        · exact Int.le_trans h3 (Int.min_le_right ..)
        · exact h2 y (by simp [hy])
theorem maxL_uniq {ns : List Int} {m k : Int} (h : maxL ns = some k) (h1 : m ∈ ns) (h2 : ∀ y, y ∈ ns → y ≤ m) : m = k := by
  cases ns with
  | nil => cases h
  | cons n r =>
    cases h
    obtain ⟨a, b⟩ := foldl_max_mem r n
    exact Int.le_antisymm (b m h1) (h2 _ a)
theorem minL_uniq {ns : List Int} {m k : Int} (h : minL ns = some k) (h1 : m ∈ ns) (h2 : ∀ y, y ∈ ns → m ≤ y) : m = k := by
  cases ns with
  | nil => cases h
  | cons n r =>
    cases h
    obtain ⟨a, b⟩ := foldl_min_mem r n
    exact Int.le_antisymm (h2 _ a) (b m h1)
/-- max, min: of two ints, or of a list or tuple of ints -/
def aMax : List D → Option D
  | [d] => (intsD d).bind fun ns => (maxL ns).map .int
  | [.int i, .int j] => some (.int (if j > i then j else i))
  | _ => none
def aMin : List D → Option D
  | [d] => (intsD d).bind fun ns => (minL ns).map .int
  | [.int i, .int j] => some (.int (if j < i then j else i))
  | _ => none
abbrev rMax2 (K : PySem.W.Frag) : List V → Hp → VK → Prop := fun xs H Q => rMaxA K xs H Q ∨ ∃ i j, xs = [.int i, .int j] ∧ Q (.int (if j > i then j else i)) H
abbrev rMin2 (K : PySem.W.Frag) : List V → Hp → VK → Prop := fun xs H Q => rMinA K xs H Q ∨ ∃ i j, xs = [.int i, .int j] ∧ Q (.int (if j < i then j else i)) H
theorem cr_max2 (hc : X.calm = true) : CallR X (.builtin "max") (rMax2 X.K) := (cr_maxA hc).or (call_max2 hc)
theorem cr_min2 (hc : X.calm = true) : CallR X (.builtin "min") (rMin2 X.K) := (cr_minA hc).or (call_min2 hc)
theorem max_pure : PureA K (rMax2 K) aMax := by
  intro q F H ω xs a d Q hs ho hx e k
  unfold aMax at e
  split at e
  · rw [Option.bind_eq_some_iff] at e
    obtain ⟨ns, e1, e⟩ := e
    rw [Option.map_eq_some_iff] at e
    obtain ⟨m, e2, rfl⟩ := e
    obtain ⟨v, rfl, hv⟩ := hx.one
    obtain ⟨p, rfl, h⟩ := hv.ints hs e1
    refine .inl ⟨p, ns, rfl, h, ?_, fun m' h1 h2 => ?_⟩
    · cases ns with
      | nil => cases e2
      | cons n r => simp
    · rw [maxL_uniq e2 h1 h2]
      exact k F H _ (.mk0 hs ho) (.int _)
  · cases e
    obtain ⟨v, w, rfl, h1, h2⟩ := hx.two
    cases h1.int
    cases h2.int
    exact .inr ⟨_, _, rfl, k F H _ (.mk0 hs ho) (.int _)⟩
  · cases e
theorem min_pure : PureA K (rMin2 K) aMin := by
  intro q F H ω xs a d Q hs ho hx e k
  unfold aMin at e
  split at e
  · rw [Option.bind_eq_some_iff] at e
    obtain ⟨ns, e1, e⟩ := e
    rw [Option.map_eq_some_iff] at e
    obtain ⟨m, e2, rfl⟩ := e
    obtain ⟨v, rfl, hv⟩ := hx.one
    obtain ⟨p, rfl, h⟩ := hv.ints hs e1
    refine .inl ⟨p, ns, rfl, h, ?_, fun m' h1 h2 => ?_⟩
    · cases ns with
      | nil => cases e2
      | cons n r => simp
    · rw [minL_uniq e2 h1 h2]
      exact k F H _ (.mk0 hs ho) (.int _)
  · cases e
    obtain ⟨v, w, rfl, h1, h2⟩ := hx.two
    cases h1.int
    cases h2.int
    exact .inr ⟨_, _, rfl, k F H _ (.mk0 hs ho) (.int _)⟩
  · cases e
def aAbs : List D → Option D
  | [.int i] => some (.int (if i < 0 then -i else i))
  | _ => none
abbrev rAbs : List V → Hp → VK → Prop := fun xs H Q => ∃ i, xs = [.int i] ∧ Q (.int (if i < 0 then -i else i)) H
theorem abs_pure : PureA K rAbs aAbs := by
  intro q F H ω xs a d Q hs ho hx e k
  unfold aAbs at e
  split at e
  · cases e
    obtain ⟨v, rfl, h1⟩ := hx.one
    cases h1.int
    exact ⟨_, rfl, k F H _ (.mk0 hs ho) (.int _)⟩
  · cases e
def aInt : List D → Option D
  | [.int i] => some (.int i)
  | [.bl b] => some (.int (if b then 1 else 0))
  | _ => none
abbrev rInt : List V → Hp → VK → Prop := fun xs H Q => (∃ i, xs = [.int i] ∧ Q (.int i) H) ∨ ∃ k, xs = [.bl k] ∧ Q (.int (if k then 1 else 0)) H
theorem int_pure : PureA K rInt aInt := by
  intro q F H ω xs a d Q hs ho hx e k
  unfold aInt at e
  split at e
  · cases e
    obtain ⟨v, rfl, h1⟩ := hx.one
    cases h1.int
    exact .inl ⟨_, rfl, k F H _ (.mk0 hs ho) (.int _)⟩
  · cases e
    obtain ⟨v, rfl, h1⟩ := hx.one
    cases h1.bl
    exact .inr ⟨_, rfl, k F H _ (.mk0 hs ho) (.int _)⟩
  · cases e
/-- all, any of a list of bools -/
def aAll : List D → Option D
  | [.lst ds] => (bolsOf ds).map fun bs => .bl (bs.all id)
  | _ => none
def aAny : List D → Option D
  | [.lst ds] => (bolsOf ds).map fun bs => .bl (bs.any id)
  | _ => none
theorem all_pure : PureA K (rAll K) aAll := by
  intro q F H ω xs a d Q hs ho hx e k
  unfold aAll at e
  split at e
  · rw [Option.map_eq_some_iff] at e
    obtain ⟨bs, e1, rfl⟩ := e
    cases bolsOf_eq e1
    obtain ⟨v, rfl, h1⟩ := hx.one
    obtain ⟨p, vs, rfl, h2, r⟩ := h1.lst hs
    cases r.bols
    exact ⟨p, bs, rfl, .inl (.inl h2), k F H _ (.mk0 hs ho) (.bl _)⟩
  · cases e
theorem any_pure : PureA K (rAny K) aAny := by
  intro q F H ω xs a d Q hs ho hx e k
  unfold aAny at e
  split at e
  · rw [Option.map_eq_some_iff] at e
    obtain ⟨bs, e1, rfl⟩ := e
    cases bolsOf_eq e1
    obtain ⟨v, rfl, h1⟩ := hx.one
    obtain ⟨p, vs, rfl, h2, r⟩ := h1.lst hs
    cases r.bols
    exact ⟨p, bs, rfl, .inl (.inl h2), k F H _ (.mk0 hs ho) (.bl _)⟩
  · cases e
end
end FL
end
section
/-! FL: statements, loops, comprehensions, calls. -/
namespace FL
open PySem PySem.Spec PyProof.Rows L2

inductive Out where
  | nx (ρ : Env) | rt (own : Bool) (d : D) | bk (ρ : Env) | ct (ρ : Env)
abbrev SF := Env → M Out
def Kont (K : PySem.W.Frag) (c : Ctx) (D : Ends) (ω : Ora) : Out → Prop
  | .nx ρ => ∀ F H σ, W K c F H σ ρ ω → D.nx σ H
  | .bk ρ => ∀ F H σ, W K c F H σ ρ ω → D.bk σ H
  | .ct ρ => ∀ F H σ, W K c F H σ ρ ω → D.ct σ H
  | .rt false d => ∀ F H v, Post c.q c.F0 c.H0 F H ω → Rep K c.q F v d → D.rt v H
  | .rt true d => ∀ F H p, Post c.q c.F0 c.H0 F H ω → Own K c F H p d → D.rt (.ref p) H
def tS (K : PySem.W.Frag) (s : SF) : TS := fun D σ H => ∃ c F ρ ω o ω', W K c F H σ ρ ω ∧ s ρ ω = some (o, ω') ∧ Kont K c D ω' o

/-! ### blocks -/
def fgt : List Nat → Env → Env
  | [], ρ => ρ
  | i :: is, ρ => sset (fgt is ρ) i .un
theorem W.fgt {K : PySem.W.Frag} {c : Ctx} {F H : Hp} {σ : L2.St} {ρ : Env} {ω : Ora} (w : W K c F H σ ρ ω) : ∀ is : List Nat, W K c F H σ (fgt is ρ) ω
  | [] => w
  | i :: is => (w.fgt is).drop i
def nilS (is : List Nat) : SF := fun ρ => ret (.nx (fgt is ρ))
def seqS (a b : SF) : SF := fun ρ => bnd (a ρ) fun o => match o with
  | .nx ρ' => b ρ'
  | o => ret o
def frzE (i : Nat) (ρ : Env) : Env := match nth ρ i with
  | .o x => sset ρ i (.d x)
  | .t _ x => sset ρ i (.d x)
  | _ => ρ
def frzS (i : Nat) (s : SF) : SF := fun ρ => s (frzE i ρ)
section
variable {X : Cx} {st : Stmt} {rest : List Stmt} {a b : SF} {e : Expr} {f : EF} {pos : Pos}
theorem s_nil (is : List Nat) : PSs X [] (tS X.K (nilS is)) := pss_weak pss_nil fun D σ H ⟨c, F, ρ, ω, o, ω', w, e, k⟩ => by
  obtain ⟨rfl, rfl⟩ := ret_some e
  exact k F H σ (w.fgt is)
theorem s_cons (h1 : PS X st (tS X.K a)) (h2 : PSs X rest (tS X.K b)) : PSs X (st :: rest) (tS X.K (seqS a b)) := pss_weak (pss_cons h1 h2) fun D σ H ⟨c, F, ρ, ω, o, ω', w, e, k⟩ => by
  obtain ⟨o1, ω1, e1, e⟩ := bnd_some e
  refine ⟨c, F, ρ, ω, o1, ω1, w, e1, ?_⟩
  cases o1 with
  | nx ρ' => exact fun F' H' σ' w' => ⟨c, F', ρ', ω1, o, ω', w', e, k⟩
  | bk ρ' => obtain ⟨rfl, rfl⟩ := ret_some e; exact k
  | ct ρ' => obtain ⟨rfl, rfl⟩ := ret_some e; exact k
  | rt b d => obtain ⟨rfl, rfl⟩ := ret_some e; cases b <;> exact k
theorem s_frz (i : Nat) (h : PSs X rest (tS X.K a)) : PSs X rest (tS X.K (frzS i a)) := pss_weak (pss_lk h) fun D σ H ⟨c, F, ρ, ω, o, ω', w, e, k⟩ => by
  unfold frzS frzE at e
  cases hn : nth ρ i with
  | o x =>
    rw [hn] at e
    cases nd : isDic x with
    | false =>
      obtain ⟨F', w'⟩ := w.freeze hn nd
      exact .inl ⟨c, F', _, ω, o, ω', w', e, k⟩
    | true =>
      obtain ⟨p, u, hu, mu, hw⟩ := w.lock hn nd
      exact .inr ⟨p, u, hu, mu, fun od => ⟨c, _, _, ω, o, ω', hw od, e, k⟩⟩
  | d x => rw [hn] at e; exact .inl ⟨c, F, ρ, ω, o, ω', w, e, k⟩
  | t n x =>
    rw [hn] at e
    obtain ⟨F', w'⟩ := w.freezeT hn
    exact .inl ⟨c, F', _, ω, o, ω', w', e, k⟩
  | un => rw [hn] at e; exact .inl ⟨c, F, ρ, ω, o, ω', w, e, k⟩

/-! ### assignments -/
def setD (i : Nat) (f : EF) : SF := fun ρ => bnd (f ρ) fun d => ret (.nx (sset ρ i (.d d)))
def setO (i : Nat) (f : EF) : SF := fun ρ => bnd (f ρ) fun d => ret (.nx (sset ρ i (.o d)))
theorem s_setDA {te : TE} (i : Nat) (h : PS X st (tAsg te (gName i))) (j : ∀ σ H Q, tE X.K f σ H Q → te σ H Q) : PS X st (tS X.K (setD i f)) := ps_weak h fun D σ H ⟨c, F, ρ, ω, o, ω', w, e, k⟩ => by
  obtain ⟨d, ω1, e1, e⟩ := bnd_some e
  obtain ⟨rfl, rfl⟩ := ret_some e
  exact j σ H _ ⟨c, F, ρ, ω, d, _, w, e1, fun F' H' v p r => k F' H' _ ((w.ext p).set_d r i)⟩
theorem s_setOA {te : TE} (i : Nat) (h : PS X st (tAsg te (gName i))) (j : ∀ σ H Q, tF X.K f σ H Q → te σ H Q) : PS X st (tS X.K (setO i f)) := ps_weak h fun D σ H ⟨c, F, ρ, ω, o, ω', w, e, k⟩ => by
  obtain ⟨d, ω1, e1, e⟩ := bnd_some e
  obtain ⟨rfl, rfl⟩ := ret_some e
  refine j σ H _ ⟨c, F, ρ, ω, d, _, w, e1, fun F' H' v p hv hf r => k F' H' _ ((w.ext p).set_o ⟨hf, w.h0_none hv, qfree_none w.post.ora hv, r⟩ i (fun j' y _ hy => w.fresh_ne hv j' y hy) (w.new_o p hv i d))⟩
variable {x : Str} {pos' : Pos}
theorem s_set (i : Nat) (hN : X.N.Nodup) (he : PE X e (tE X.K f)) (hi : X.N[i]? = some x := by rfl) (hx : Loc X.env.scope x := by first | exact .inl rfl | exact .inr rfl) (hs : swapsWith e (some (.Name x pos')) pos.line X.env = pure false := by rfl) (hf : X.fn x = true ∨ X.env.scope.names.lookup x = some .local := by first | exact .inl rfl | exact .inr rfl | assumption) :
    PS X (.Assign [.Name x pos'] e pos) (tS X.K (setD i f)) := s_setDA i (ps_set hN hi hx he hs hf) fun _ _ _ h => h
theorem s_setO (i : Nat) (hN : X.N.Nodup) (he : PE X e (tF X.K f)) (hi : X.N[i]? = some x := by rfl) (hx : Loc X.env.scope x := by first | exact .inl rfl | exact .inr rfl) (hs : swapsWith e (some (.Name x pos')) pos.line X.env = pure false := by rfl) (hf : X.fn x = true ∨ X.env.scope.names.lookup x = some .local := by first | exact .inl rfl | exact .inr rfl | assumption) :
    PS X (.Assign [.Name x pos'] e pos) (tS X.K (setO i f)) := s_setOA i (ps_set hN hi hx he hs hf) fun _ _ _ h => h
/-- y = x, x an own object: it moves -/
def movS (i j : Nat) : SF := fun ρ => match nth ρ j with
  | .o x => ret (.nx (sset (sset ρ j .un) i (.o x)))
  | .d x => ret (.nx (sset ρ i (.d x)))
  | _ => opt none
theorem s_mov (i j : Nat) {y : Str} {py : Pos} (hN : X.N.Nodup) (hi : X.N[i]? = some x := by rfl) (hj : X.N[j]? = some y := by rfl) (hv : Vis X.env.scope y := by first | exact Or.inl rfl | exact Or.inr (Or.inl rfl) | exact Or.inr (Or.inr rfl)) (hx : Loc X.env.scope x := by first | exact .inl rfl | exact .inr rfl) (hs : swapsWith (.Name y py) (some (.Name x pos')) pos.line X.env = pure false := by rfl) (hf : X.fn x = true ∨ X.env.scope.names.lookup x = some .local := by first | exact .inl rfl | exact .inr rfl | assumption)
    (hd : (y == ("__debug__" : Str)) = false := by decide) (hcd : (y == ("__classdict__" : Str)) = false := by decide) :
    PS X (.Assign [.Name x pos'] (.Name y py) pos) (tS X.K (movS i j)) := ps_weak (ps_set hN hi hx (pe_var hj hv hd hcd) hs hf) fun D σ H ⟨c, F, ρ, ω, o, ω', w, e, k⟩ => by
  unfold movS at e
  cases hn : nth ρ j with
  | o z =>
    rw [hn] at e
    obtain ⟨rfl, rfl⟩ := ret_some e
    obtain ⟨p, h1, h2⟩ := w.ow j z hn
    refine ⟨_, h1, k F H _ ((w.drop j).set_o h2 i (fun j' y' hne hy => ?_) (w.tr.mono rfl rfl (fun j' n y' e => ?_) (fun j' y' q e es => ?_) (.refl F) fun a t _ _ => ⟨rfl, t.f⟩))⟩
    · rw [nth_sset] at hy
      by_cases hj' : j' = j
      · rw [if_pos hj'] at hy; split at hy <;> cases hy
      · rw [if_neg hj'] at hy
        rw [← h1]
        exact w.dj j' j y' z hj' hy hn
    · rw [nth_sset] at e
      by_cases h : j' = i
      · rw [if_pos h] at e; split at e <;> cases e
      · rw [if_neg h, nth_sset] at e
        by_cases hj' : j' = j
        · rw [if_pos hj'] at e; split at e <;> cases e
        · rw [if_neg hj'] at e
          exact ⟨e, List.getElem?_set_ne (Ne.symm h)⟩
    · left
      rw [nth_sset] at e
      by_cases h : j' = i
      · subst h
        have hl : j' < σ.length := by
          have := (List.getElem?_eq_some_iff.mp es).1
          rw [List.length_set] at this; exact this
        rw [List.getElem?_set_self hl] at es
        cases es
        exact ⟨j, z, hn, h1⟩
      · rw [if_neg h, nth_sset] at e
        by_cases hj' : j' = j
        · rw [if_pos hj'] at e; split at e <;> cases e
        · rw [if_neg hj'] at e
          rw [List.getElem?_set_ne (Ne.symm h)] at es
          exact ⟨j', y', e, es⟩
  | d z =>
    rw [hn] at e
    obtain ⟨rfl, rfl⟩ := ret_some e
    obtain ⟨v, h1, h2⟩ := w.fz j z hn
    exact ⟨_, h1, k F H _ (w.set_d h2 i)⟩
  | t n z => rw [hn] at e; cases e
  | un => rw [hn] at e; cases e
/-- x op= e -/
def augS (i : Nat) (o : D → D → Option D) (f : EF) : SF := fun ρ => bnd (vr i ρ) fun x => bnd (f ρ) fun y => bnd (opt (o x y)) fun z => ret (.nx (sset ρ i (.d z)))
theorem s_aug (i : Nat) {op : Operator} {r : R2} {o : D → D → Option D} (ho : OpR X (inplaceOp op) r) (hr : Pure2 X.K r o) (hN : X.N.Nodup) (he : PE X e (tB X.K f)) (hi : X.N[i]? = some x := by rfl) (hx : Loc X.env.scope x := by first | exact .inl rfl | exact .inr rfl) (hf : X.fn x = true ∨ X.env.scope.names.lookup x = some .local := by first | exact .inl rfl | exact .inr rfl | assumption) :
    PS X (.AugAssign (.Name x pos') op e pos) (tS X.K (augS i o f)) := ps_weak (ps_aug (ti := r) hN hi hx he (fun pins s σ H x y v u Q I r1 r2 h => ho pins s σ H x y v u Q I r1 r2 h) hf) fun D σ H ⟨c, F, ρ, ω, o, ω', w, e, k⟩ => by
  obtain ⟨x1, ω1, e1, e⟩ := bnd_some e
  obtain ⟨y1, ω2, e2, e⟩ := bnd_some e
  obtain ⟨z1, ω3, e3, e⟩ := bnd_some e
  obtain ⟨rfl, rfl⟩ := ret_some e
  obtain ⟨e4, rfl⟩ := opt_some e3
  unfold vr at e1
  cases hn : nth ρ i with
  | d z =>
    rw [hn] at e1
    obtain ⟨rfl, rfl⟩ := ret_some e1
    obtain ⟨v, h1, h2⟩ := w.fz i _ hn
    refine ⟨v, h1, c, F, ρ, _, y1, _, w, e2, fun F1 H1 u p1 r1 => ?_⟩
    exact hr c.q F1 H1 _ v u _ y1 z1 _ p1.le p1.ora (.inl (h2.mono p1.le0)) r1 e4 fun F2 H2 t p2 r2 => k F2 H2 _ (((w.ext p1).ext p2).set_d r2 i)
  | o z => rw [hn] at e1; cases e1
  | t n z => rw [hn] at e1; cases e1
  | un => rw [hn] at e1; cases e1

/-! ### return, if, expression -/
def retS (f : EF) : SF := fun ρ => bnd (f ρ) fun d => ret (.rt false d)
def retO (f : EF) : SF := fun ρ => bnd (f ρ) fun d => ret (.rt true d)
def retV (i : Nat) : SF := fun ρ => match nth ρ i with
  | .o x => ret (.rt true x)
  | .d x => ret (.rt false x)
  | _ => opt none
theorem s_ret (he : PE X e (tE X.K f)) : PS X (.Return (some e) pos) (tS X.K (retS f)) := ps_weak (ps_ret he) fun D σ H ⟨c, F, ρ, ω, o, ω', w, e, k⟩ => by
  obtain ⟨d, ω1, e1, e⟩ := bnd_some e
  obtain ⟨rfl, rfl⟩ := ret_some e
  exact ⟨c, F, ρ, ω, d, _, w, e1, fun F' H' v p r => k F' H' v (w.post.trans p) r⟩
theorem s_retO (he : PE X e (tF X.K f)) : PS X (.Return (some e) pos) (tS X.K (retO f)) := ps_weak (ps_ret he) fun D σ H ⟨c, F, ρ, ω, o, ω', w, e, k⟩ => by
  obtain ⟨d, ω1, e1, e⟩ := bnd_some e
  obtain ⟨rfl, rfl⟩ := ret_some e
  exact ⟨c, F, ρ, ω, d, _, w, e1, fun F' H' v p hv hf r => k F' H' v (w.post.trans p) ⟨hf, w.h0_none hv, qfree_none w.post.ora hv, r⟩⟩
theorem s_retV (i : Nat) {px : Pos} (hN : X.N[i]? = some x := by rfl) (hv : Vis X.env.scope x := by first | exact Or.inl rfl | exact Or.inr (Or.inl rfl) | exact Or.inr (Or.inr rfl)) (hd : (x == ("__debug__" : Str)) = false := by decide)
    (hcd : (x == ("__classdict__" : Str)) = false := by decide) : PS X (.Return (some (.Name x px)) pos) (tS X.K (retV i)) := ps_weak (ps_ret (pe_var hN hv hd hcd)) fun D σ H ⟨c, F, ρ, ω, o, ω', w, e, k⟩ => by
  unfold retV at e
  cases hn : nth ρ i with
  | o z =>
    rw [hn] at e
    obtain ⟨rfl, rfl⟩ := ret_some e
    obtain ⟨p, h1, h2⟩ := w.ow i z hn
    exact ⟨_, h1, k F H p w.post h2⟩
  | d z =>
    rw [hn] at e
    obtain ⟨rfl, rfl⟩ := ret_some e
    obtain ⟨v, h1, h2⟩ := w.fz i z hn
    exact ⟨_, h1, k F H v w.post h2⟩
  | t n z => rw [hn] at e; cases e
  | un => rw [hn] at e; cases e
def retN : SF := fun _ => ret (.rt false .non)
theorem s_retN : PS X (.Return none pos) (tS X.K retN) := ps_weak ps_retN fun D σ H ⟨c, F, ρ, ω, o, ω', w, e, k⟩ => by
  obtain ⟨rfl, rfl⟩ := ret_some e
  exact k F H _ w.post .non
def ifS (t : BF) (a b : SF) : SF := fun ρ => bnd (t ρ) fun x => bif x then a ρ else b ρ
theorem s_if {c : Expr} {sa sb : List Stmt} {t : BF} (hc : PT X c (tT' X.K t)) (ha : PSs X sa (tS X.K a)) (hb : PSs X sb (tS X.K b)) : PS X (.If c sa sb pos) (tS X.K (ifS t a b)) := ps_weak (ps_if hc ha hb) fun D σ H ⟨c, F, ρ, ω, o, ω', w, e, k⟩ => by
  obtain ⟨x, ω1, e1, e⟩ := bnd_some e
  refine ⟨c, F, ρ, ω, x, ω1, w, e1, fun F1 H1 p1 => ?_⟩
  cases x with
  | true => exact iteT ⟨c, F1, ρ, ω1, o, ω', w.ext p1, e, k⟩
  | false => exact iteF ⟨c, F1, ρ, ω1, o, ω', w.ext p1, e, k⟩
def exprS (f : EF) : SF := fun ρ => bnd (f ρ) fun _ => ret (.nx ρ)
theorem s_expr (he : PE X e (tE X.K f)) (hs : swapsWith e none pos.line X.env = pure false := by rfl) : PS X (.Expr e pos) (tS X.K (exprS f)) := ps_weak (ps_expr he hs) fun D σ H ⟨c, F, ρ, ω, o, ω', w, e, k⟩ => by
  obtain ⟨d, ω1, e1, e⟩ := bnd_some e
  obtain ⟨rfl, rfl⟩ := ret_some e
  exact ⟨c, F, ρ, ω, d, _, w, e1, fun F' H' v p r => k F' H' σ (w.ext p)⟩
def brkS (is : List Nat) : SF := fun ρ => ret (.bk (fgt is ρ))
def cntS (is : List Nat) : SF := fun ρ => ret (.ct (fgt is ρ))
theorem s_brk (is : List Nat) : PS X (.Break pos) (tS X.K (brkS is)) := ps_weak ps_break fun D σ H ⟨c, F, ρ, ω, o, ω', w, e, k⟩ => by
  obtain ⟨rfl, rfl⟩ := ret_some e
  exact k F H σ (w.fgt is)
theorem s_cnt (is : List Nat) : PS X (.Continue pos) (tS X.K (cntS is)) := ps_weak ps_continue fun D σ H ⟨c, F, ρ, ω, o, ω', w, e, k⟩ => by
  obtain ⟨rfl, rfl⟩ := ret_some e
  exact k F H σ (w.fgt is)
theorem s_pass : PS X (.Pass pos) (tS X.K (nilS [])) := ps_weak ps_pass fun D σ H ⟨c, F, ρ, ω, o, ω', w, e, k⟩ => by
  obtain ⟨rfl, rfl⟩ := ret_some e
  exact k F H σ w
theorem s_doc {y : Str} {j : Nat} {p2 : Pos} : PS X (.Expr (.Constant (.str y) j p2) pos) (tS X.K (nilS [])) := ps_weak ps_doc fun D σ H ⟨c, F, ρ, ω, o, ω', w, e, k⟩ => by
  obtain ⟨rfl, rfl⟩ := ret_some e
  exact k F H σ w

/-! ### x.append(e), x[i] = e, x.pop() -/
def appO : SV → D → Option D
  | .o (.lst ds), d => if ds.length < sizeLine then some (.lst (ds ++ [d])) else none
  | _, _ => none
theorem appO_some {v : SV} {d l : D} (h : appO v d = some l) : ∃ ds, v = .o (.lst ds) ∧ ds.length < sizeLine ∧ l = .lst (ds ++ [d]) := by
  unfold appO at h
  split at h
  · split at h
    · cases h; exact ⟨_, rfl, by assumption, rfl⟩
    · cases h
  · cases h
def appS (i : Nat) (f : EF) : SF := fun ρ => bnd (f ρ) fun d => bnd (opt (appO (nth ρ i) d)) fun l => ret (.nx (sset ρ i (.o l)))
theorem s_app (i : Nat) {o : Expr} {apos cpos : Pos} (ho : PE X o (tVar i)) (he : PE X e (tE X.K f)) (hs : starEach [e] X.env = (false, eval e X.env) :: starEach [] X.env := by rfl)
    (hbase : attributeBase o "append" X.env (eval o X.env) = eval o X.env := by rfl)
    (hfew : ((backTo cpos (starEach (e :: []) X.env)).all (fun x => !x.1) && (backToKw cpos (keywordEach [] X.env)).all (fun x => x.1.isSome)
      && decide ((e :: ([] : List Expr)).length + ([] : List Keyword).length + (if ([] : List Keyword).isEmpty then 0 else 1) < 30)) = true := by rfl)
    (hline : (apos.endLine == cpos.line) = true := by rfl) (hplain : (backTo cpos (starEach ([] : List Expr) X.env)).any (·.1) = false := by rfl)
    (hsw : swapsWith (.Call (.Attribute o "append" apos) [e] [] cpos) none pos.line X.env = pure false := by rfl) :
    PS X (.Expr (.Call (.Attribute o "append" apos) [e] [] cpos) pos) (tS X.K (appS i f)) :=
  ps_weak (ps_expr (pe_bm PySem.F.plainAttrs_list PySem.F.slot_list_append PySem.F.type_list_append mt_append ho (pa_cons he pa_nil hs) hbase hfew hline hs hplain) hsw) fun D σ H ⟨c, F, ρ, ω, o, ω', w, e, k⟩ => by
    obtain ⟨d, ω1, e1, e⟩ := bnd_some e
    obtain ⟨l, ω2, e2, e⟩ := bnd_some e
    obtain ⟨rfl, rfl⟩ := ret_some e
    obtain ⟨e3, rfl⟩ := opt_some e2
    obtain ⟨ds, hn, hz, rfl⟩ := appO_some e3
    obtain ⟨p, h1, h2⟩ := w.ow i _ hn
    obtain ⟨vs, hv, r⟩ := h2.r
    refine ⟨_, h1, .inl ⟨rfl, vs, .inl (.inl hv)⟩, c, F, ρ, ω, d, _, w, e1, fun F1 H1 v p1 r1 => ?_⟩
    have w1 := w.ext p1
    have hv1 : H1 p = some (.lst vs) := p1.kept _ _ hv h2.qf
    exact ⟨p, vs, v, rfl, rfl, hv1, by rw [r.length]; exact hz, k F1 _ σ (w1.write hn h1 ⟨_, upd_same, (r.mono p1.le0).append (.cons r1 .nil)⟩)⟩
def setIO : SV → D → D → Option D
  | .o (.lst ds), .int j, v => (ixN ds.length j).map fun n => .lst (ds.set n v)
  | _, _, _ => none
theorem setIO_some {x : SV} {k v l : D} (h : setIO x k v = some l) : ∃ ds j n, x = .o (.lst ds) ∧ k = .int j ∧ ixN ds.length j = some n ∧ l = .lst (ds.set n v) := by
  unfold setIO at h
  split at h
  · rw [Option.map_eq_some_iff] at h
    obtain ⟨n, h1, rfl⟩ := h
    exact ⟨_, _, n, rfl, rfl, h1, rfl⟩
  · cases h
def setIS (i : Nat) (f g : EF) : SF := fun ρ => bnd (g ρ) fun v => bnd (f ρ) fun k => bnd (opt (setIO (nth ρ i) k v)) fun l => ret (.nx (sset ρ i (.o l)))
theorem s_setI (i : Nat) {o ix : Expr} {g : EF} {p2 : Pos} (ho : PE X o (tVar i)) (hi : PE X ix (tB X.K f)) (he : PE X e (tE X.K g))
    (hs : swapsWithSole [.Subscript o ix p2] e pos.line X.env = pure false := by rfl) (hw : swappedStores [.Subscript o ix p2] e X.env = pure none := by rfl)
    (h1 : (assignEach [.Subscript o ix p2] X.env).map (·.2) = [assign (.Subscript o ix p2) X.env] := by rfl)
    (ha : ∀ v, assign (.Subscript o ix p2) X.env v = (do
      let ov ← holding [v] (eval o X.env)
      let iv ← holding [v, ov] (eval ix X.env)
      standAt p2
      holding [v, ov, iv] (setItem ov iv v)
      release [v, ov, iv] []) := by intro _; rfl) :
    PS X (.Assign [.Subscript o ix p2] e pos) (tS X.K (setIS i f g)) := ps_weak (ps_asg he (pg_sub ho hi set_list ha) hs hw h1) fun D σ H ⟨c, F, ρ, ω, o, ω', w, e, k⟩ => by
  obtain ⟨d, ω1, e1, e⟩ := bnd_some e
  obtain ⟨kx, ω2, e2, e⟩ := bnd_some e
  obtain ⟨l, ω3, e3, e⟩ := bnd_some e
  obtain ⟨rfl, rfl⟩ := ret_some e
  obtain ⟨e4, rfl⟩ := opt_some e3
  obtain ⟨ds, j, n, hn, rfl, hz, rfl⟩ := setIO_some e4
  obtain ⟨p, h1, h2⟩ := w.ow i _ hn
  obtain ⟨vs, hv, r⟩ := h2.r
  refine ⟨c, F, ρ, ω, d, _, w, e1, fun F1 H1 v p1 r1 => ⟨_, h1, c, F1, ρ, ω1, _, _, w.ext p1, e2, fun F2 H2 u p2 r2 => ?_⟩⟩
  cases r2.int
  have w2 := (w.ext p1).ext p2
  have hv1 : H2 p = some (.lst vs) := p2.kept _ _ (p1.kept _ _ hv h2.qf) h2.qf
  exact ⟨p, vs, _, n, rfl, rfl, hv1, by rw [r.length]; exact hz, k F2 _ σ (w2.write hn h1 ⟨_, upd_same, ((r.mono p1.le0).mono p2.le0).set n (r1.mono p2.le0)⟩)⟩
/-- x.pop() dropped, or kept in a name -/
def popO : SV → Option (D × D)
  | .o (.lst ds) => (ds[ds.length - 1]?).map fun x => (x, .lst ds.dropLast)
  | _ => none
theorem popO_some {x : SV} {r : D × D} (h : popO x = some r) : ∃ ds, x = .o (.lst ds) ∧ ds[ds.length - 1]? = some r.1 ∧ r.2 = .lst ds.dropLast := by
  unfold popO at h
  split at h
  · rw [Option.map_eq_some_iff] at h
    obtain ⟨n, h1, rfl⟩ := h
    exact ⟨_, rfl, h1, rfl⟩
  · cases h
def popS (i : Nat) : SF := fun ρ => bnd (opt (popO (nth ρ i))) fun r => ret (.nx (sset ρ i (.o r.2)))
def setPop (j i : Nat) : SF := fun ρ => bnd (opt (popO (nth ρ i))) fun r => ret (.nx (sset (sset ρ i (.o r.2)) j (.d r.1)))
theorem Reps.dropLast {K : PySem.W.Frag} {q : Qa} {F : Hp} {v : List V} {d : List D} (h : Reps K q F v d) : Reps K q F v.dropLast d.dropLast := by
  rw [List.dropLast_eq_take, List.dropLast_eq_take, h.length]
  exact h.take _
theorem s_pop (i : Nat) {o : Expr} {apos cpos : Pos} (ho : PE X o (tVar i)) (hbase : attributeBase o "pop" X.env (eval o X.env) = eval o X.env := by rfl) (hline : (apos.endLine == cpos.line) = true := by rfl)
    (hsw : swapsWith (.Call (.Attribute o "pop" apos) [] [] cpos) none pos.line X.env = pure false := by rfl) :
    PS X (.Expr (.Call (.Attribute o "pop" apos) [] [] cpos) pos) (tS X.K (popS i)) :=
  ps_weak (ps_expr (pe_bm0 PySem.F.plainAttrs_list PySem.F.slot_list_pop PySem.F.type_list_pop mt_pop ho hbase hline) hsw) fun D σ H ⟨c, F, ρ, ω, o, ω', w, e, k⟩ => by
    obtain ⟨r, ω1, e1, e⟩ := bnd_some e
    obtain ⟨rfl, rfl⟩ := ret_some e
    obtain ⟨e2, rfl⟩ := opt_some e1
    obtain ⟨ds, hn, hz, hr⟩ := popO_some e2
    obtain ⟨p, h1, h2⟩ := w.ow i _ hn
    obtain ⟨vs, hv, rr⟩ := h2.r
    obtain ⟨u, h3, h4⟩ := rr.get hz
    refine ⟨_, h1, .inl ⟨rfl, vs, .inl (.inl hv)⟩, p, vs, u, rfl, rfl, hv, by rw [rr.length]; exact h3, k F _ σ (w.write hn h1 ?_)⟩
    rw [hr]
    exact ⟨_, upd_same, rr.dropLast⟩
theorem s_setPop (j i : Nat) {o : Expr} {apos cpos : Pos} (hN : X.N.Nodup) (ho : PE X o (tVar i)) (hj : X.N[j]? = some x := by rfl) (hx : Loc X.env.scope x := by first | exact .inl rfl | exact .inr rfl) (hs : swapsWith (.Call (.Attribute o "pop" apos) [] [] cpos) (some (.Name x pos')) pos.line X.env = pure false := by rfl) (hf : X.fn x = true ∨ X.env.scope.names.lookup x = some .local := by first | exact .inl rfl | exact .inr rfl | assumption)
    (hbase : attributeBase o "pop" X.env (eval o X.env) = eval o X.env := by rfl) (hline : (apos.endLine == cpos.line) = true := by rfl) :
    PS X (.Assign [.Name x pos'] (.Call (.Attribute o "pop" apos) [] [] cpos) pos) (tS X.K (setPop j i)) :=
  ps_weak (ps_set hN hj hx (pe_bm0 PySem.F.plainAttrs_list PySem.F.slot_list_pop PySem.F.type_list_pop mt_pop ho hbase hline) hs hf) fun D σ H ⟨c, F, ρ, ω, o, ω', w, e, k⟩ => by
    obtain ⟨r, ω1, e1, e⟩ := bnd_some e
    obtain ⟨rfl, rfl⟩ := ret_some e
    obtain ⟨e2, rfl⟩ := opt_some e1
    obtain ⟨ds, hn, hz, hr⟩ := popO_some e2
    obtain ⟨p, h1, h2⟩ := w.ow i _ hn
    obtain ⟨vs, hv, rr⟩ := h2.r
    obtain ⟨u, h3, h4⟩ := rr.get hz
    refine ⟨_, h1, .inl ⟨rfl, vs, .inl (.inl hv)⟩, p, vs, u, rfl, rfl, hv, by rw [rr.length]; exact h3, k F _ _ ((w.write hn h1 ?_).set_d h4 j)⟩
    rw [hr]
    exact ⟨_, upd_same, rr.dropLast⟩
end

/-! ### what is walked -/
def ItOk (K : PySem.W.Frag) (q : Qa) (F : Hp) (J : It) (ds : List D) : Prop := ∀ (F2 H2 : Hp) (ω2 : Ora), Same F F2 → Same F2 H2 → OraR q F2 H2 ω2 → ∀ i : Nat,
  (∀ d, ds[i]? = some d → J.go i H2 ∧ ∀ x H3, J.yld i H2 x H3 → ∃ F3, Post q F2 H2 F3 H3 ω2 ∧ Rep K q F3 x d) ∧ (ds.length ≤ i → J.stop i H2)
def tI (K : PySem.W.Frag) (f : AF) : TI := fun σ H R => ∃ c F ρ ω ds ω', W K c F H σ ρ ω ∧ f ρ ω = some (ds, ω') ∧ ∀ F' H' J, Post c.q F H F' H' ω' → ItOk K c.q F' J ds → R J H'
/-- a target -/
abbrev GF := D → Env → Option Env
def tG (K : PySem.W.Frag) (vs : List Nat) (b : GF) : TG := fun v σ H Q => ∃ c F ρ ω d ρ', W K c F H σ ρ ω ∧ Rep K c.q F v d ∧ b d ρ = some ρ' ∧ ∀ σ', W K c F H σ' ρ' ω → σ'.length = σ.length → (∀ j, j ∉ vs → σ'[j]? = σ[j]?) → Q σ' H
section
variable {X : Cx} {a e : Expr} {f : EF} {pos p : Pos} {x : Str}
theorem pi_weak {tg it : Expr} {t t' : TI} (h : PI X tg it t) (i : ∀ σ H R, t' σ H R → t σ H R) : PI X tg it t' := ⟨fun pins s σ H Q I q => h.run pins s σ H Q I (i σ H Q q)⟩
theorem pg_weak {tg : Expr} {t t' : TG} (h : PG X tg t) (i : ∀ v σ H Q, t' v σ H Q → t v σ H Q) : PG X tg t' := ⟨fun pins s σ H v u Q I r q => h.run pins s σ H v u Q I r (i v σ H Q q)⟩
def gN (i : Nat) : GF := fun d ρ => some (sset ρ i (.d d))
theorem g_name (i : Nat) (hN : X.N.Nodup) (hi : X.N[i]? = some x := by rfl) (hx : Loc X.env.scope x := by first | exact .inl rfl | exact .inr rfl) (hf : X.fn x = true ∨ X.env.scope.names.lookup x = some .local := by first | exact .inl rfl | exact .inr rfl | assumption) : PG X (.Name x pos) (tG X.K [i] (gN i)) :=
  pg_weak (pg_name hN hi hx hf) fun v σ H Q ⟨c, F, ρ, ω, d, ρ', w, r, e, k⟩ => by
    cases e
    exact k _ (w.set_d r i) (List.length_set ..) fun j hj => by rw [List.getElem?_set_ne (by simpa [eq_comm] using hj)]
/-- several targets -/
abbrev GFs := List D → Env → Option Env
def tGs (K : PySem.W.Frag) (vs : List Nat) (b : GFs) : TGs := fun us σ H Q => ∃ c F ρ ω ds ρ', W K c F H σ ρ ω ∧ Reps K c.q F us ds ∧ b ds ρ = some ρ' ∧ ∀ σ', W K c F H σ' ρ' ω → σ'.length = σ.length → (∀ j, j ∉ vs → σ'[j]? = σ[j]?) → Q σ' H
theorem pgs_weak {ts : List Expr} {t t' : TGs} (h : PGs X ts t) (i : ∀ v σ H Q, t' v σ H Q → t v σ H Q) : PGs X ts t' := ⟨fun pins s σ H v u Q I r q => h.run pins s σ H v u Q I r (i v σ H Q q)⟩
def gsN : GFs := fun ds ρ => match ds with
  | [] => some ρ
  | _ => none
def gsC (b : GF) (g : GFs) : GFs := fun ds ρ => match ds with
  | d :: ds => (b d ρ).bind (g ds)
  | [] => none
theorem g_nil : PGs X [] (tGs X.K [] gsN) := pgs_weak pgs_nil fun v σ H Q ⟨c, F, ρ, ω, d, ρ', w, r, e, k⟩ => by
  cases r with
  | nil => cases e; exact ⟨rfl, k _ w rfl fun _ _ => rfl⟩
  | cons _ _ => cases e
theorem g_cons {es : List Expr} {is js : List Nat} {b : GF} {g : GFs} (h : PG X e (tG X.K is b)) (h2 : PGs X es (tGs X.K js g)) (hs : (assignEach (e :: es) X.env).map (·.2) = assign e X.env :: (assignEach es X.env).map (·.2) := by rfl) : PGs X (e :: es) (tGs X.K (is ++ js) (gsC b g)) :=
  pgs_weak (pgs_cons h h2 hs) fun v σ H Q ⟨c, F, ρ, ω, d, ρ', w, r, e, k⟩ => by
    cases r with
    | nil => cases e
    | cons r1 r2 =>
      simp only [gsC, Option.bind_eq_some_iff] at e
      obtain ⟨ρ1, e1, e2⟩ := e
      refine ⟨_, _, rfl, c, F, ρ, ω, _, ρ1, w, r1, e1, fun σ1 w1 l1 h1 => ⟨c, F, ρ1, ω, _, ρ', w1, r2, e2, fun σ2 w2 l2 h2 => k σ2 w2 (l2.trans l1) fun j hj => ?_⟩⟩
      rw [List.mem_append, not_or] at hj
      rw [h2 j hj.2, h1 j hj.1]
def gT (g : GFs) : GF := fun d ρ => match d with
  | .tup ds => g ds ρ
  | _ => none
theorem gs_length : ∀ {g : GFs} {ds : List D} {ρ ρ' : Env}, True := trivial
theorem g_tup {es : List Expr} {k n : Nat} {is : List Nat} {g : GFs} (hc : X.calm = true) (h : PGs X es (tGs X.K is g)) (hlen : ∀ ds ρ ρ', g ds ρ = some ρ' → ds.length = n) (hn : (assignEach es X.env).length = n := by rfl) (hst : (assignEach es X.env).findIdx? (·.1) = none := by rfl) :
    PG X (.Tuple es k pos) (tG X.K is (gT g)) := pg_weak (pg_tup hc h hn hst) fun v σ H Q ⟨c, F, ρ, ω, d, ρ', w, r, e, k⟩ => by
  cases r with
  | tup hs r =>
    exact ⟨_, _, rfl, same_sqt w.post.le hs.sq, by rw [r.length]; exact hlen _ _ _ e, c, F, ρ, ω, _, ρ', w, r, e, k⟩
  | _ => cases e
/-! iterables -/
def itVO : D → Option (List D)
  | .lst ds => some ds
  | _ => none
def itV (f : EF) : AF := fun ρ => bnd (f ρ) fun d => opt (itVO d)
def itTO : D → Option (List D)
  | .tup ds => some ds
  | _ => none
def itT (f : EF) : AF := fun ρ => bnd (f ρ) fun d => opt (itTO d)
theorem post_of {q : Qa} {F2 H2 : Hp} {ω2 : Ora} (h : Same F2 H2) (o : OraR q F2 H2 ω2) : Post q F2 H2 F2 H2 ω2 := .mk0 h o
theorem sql_inj {K : PySem.W.Frag} {H : Hp} {a : Addr} {xs : List V} (h : H a = some (.lst xs)) : SqL K H a xs := .inl (.inl h)
theorem i_list {tg : Expr} (h : PE X a (tE X.K f)) : PI X tg a (tI X.K (itV f)) := pi_weak (pi_list h) fun σ H R ⟨c, F, ρ, ω, d, ω', w, e, k⟩ => by
  obtain ⟨x, ω1, e1, e⟩ := bnd_some e
  obtain ⟨e2, rfl⟩ := opt_some e
  refine ⟨c, F, ρ, ω, x, _, w, e1, fun F1 H1 v p1 r1 => ?_⟩
  cases x <;> simp only [itVO, reduceCtorEq, Option.some.injEq] at e2
  subst e2
  cases r1 with
  | lst hF r =>
    refine ⟨_, rfl, ⟨_, .inl (.inl (p1.le _ _ hF))⟩, k F1 H1 _ p1 fun F2 H2 ω2 s1 s2 o i => ⟨fun d hd => ?_, fun hi => ?_⟩⟩
    · obtain ⟨u, h1, h2⟩ := r.get hd
      have hq := sql_inj (K := X.K) (s2 _ _ (s1 _ _ hF))
      exact ⟨⟨_, u, hq, h1⟩, fun x H3 hy => ⟨F2, by rw [hy.1]; exact .mk0 s2 o, by
        have := hy.2 _ hq
        rw [h1] at this
        cases this
        exact h2.mono s1⟩⟩
    · exact ⟨_, sql_inj (s2 _ _ (s1 _ _ hF)), by rw [r.length]; exact hi⟩
theorem i_tup {tg : Expr} (h : PE X a (tE X.K f)) : PI X tg a (tI X.K (itT f)) := pi_weak (pi_tup h) fun σ H R ⟨c, F, ρ, ω, d, ω', w, e, k⟩ => by
  obtain ⟨x, ω1, e1, e⟩ := bnd_some e
  obtain ⟨e2, rfl⟩ := opt_some e
  refine ⟨c, F, ρ, ω, x, _, w, e1, fun F1 H1 v p1 r1 => ?_⟩
  cases x <;> simp only [itTO, reduceCtorEq, Option.some.injEq] at e2
  subst e2
  cases r1 with
  | tup hF r =>
    refine ⟨_, rfl, ⟨_, same_sqt p1.le hF.sq⟩, k F1 H1 _ p1 fun F2 H2 ω2 s1 s2 o i => ⟨fun d hd => ?_, fun hi => ?_⟩⟩
    · obtain ⟨u, h1, h2⟩ := r.get hd
      have hq := same_sqt s2 (same_sqt s1 hF.sq)
      exact ⟨⟨_, u, hq, h1⟩, fun x H3 hy => ⟨F2, by rw [hy.1]; exact .mk0 s2 o, by
        have := hy.2 _ hq
        rw [h1] at this
        cases this
        exact h2.mono s1⟩⟩
    · exact ⟨_, same_sqt s2 (same_sqt s1 hF.sq), by rw [r.length]; exact hi⟩
/-- lo, lo + 1, .. (n of them) -/
def upI (lo : Int) : Nat → List D
  | 0 => []
  | n + 1 => .int lo :: upI (lo + 1) n
theorem upI_length : ∀ (n : Nat) (lo : Int), (upI lo n).length = n
  | 0, _ => rfl
  | n + 1, lo => congrArg (· + 1) (upI_length n (lo + 1))
theorem upI_get : ∀ (n : Nat) (lo : Int) (i : Nat) (d : D), (upI lo n)[i]? = some d → i < n ∧ d = .int (lo + i)
  | 0, _, _, _, h => by simp [upI] at h
  | n + 1, lo, 0, d, h => by simp [upI] at h; exact ⟨by omega, by rw [← h]; simp⟩
  | n + 1, lo, i + 1, d, h => by
    obtain ⟨h1, h2⟩ := upI_get n (lo + 1) i d (by simpa [upI] using h)
    refine ⟨by omega, ?_⟩
    rw [h2]
    congr 1
    omega
theorem itOk_range {K : PySem.W.Frag} {q : Qa} {F : Hp} {lo : Int} {n : Nat} : ItOk K q F (Itr lo n) (upI lo n) := fun F2 H2 ω2 s1 s2 o i => ⟨fun d hd => by
    obtain ⟨h1, rfl⟩ := upI_get n lo i d hd
    exact ⟨h1, fun x H3 hy => ⟨F2, by rw [hy.1]; exact .mk0 s2 o, by rw [hy.2]; exact .int _⟩⟩, fun hi => by
    rw [upI_length] at hi; exact hi⟩
def rgOk (i : Int) : Bool := decide (-(2 ^ 62) ≤ i) && decide (i < 2 ^ 62)
def rg1 : D → Option (List D)
  | .int j => if rgOk j = true then some (upI 0 j.toNat) else none
  | _ => none
def rg2 : D → D → Option (List D)
  | .int i, .int j => if (rgOk i && rgOk j) = true then some (upI i (j - i).toNat) else none
  | _, _ => none
def itR1 (f : EF) : AF := fun ρ => bnd (f ρ) fun d => opt (rg1 d)
def itR2 (f g : EF) : AF := fun ρ => bnd (f ρ) fun d => bnd (g ρ) fun e => opt (rg2 d e)
theorem rgOk_iff {i : Int} (h : rgOk i = true) : -(2 ^ 62) ≤ i ∧ i < 2 ^ 62 := by
  simpa [rgOk] using h
theorem i_range1 {tg : Expr} (hm : X.mg "range" = none) (h : PE X a (tB X.K f)) (hg : Gl X "range" := by rfl) (na : starEach [a] X.env = (false, eval a X.env) :: starEach [] X.env := by rfl) (hs : starEach [a] X.env = [(false, eval a X.env)] := by rfl) : PI X tg (.Call (.Name "range" p) [a] [] pos) (tI X.K (itR1 f)) :=
  pi_weak (pi_range1 hg hm (pa_cons h pa_nil na) hs) fun σ H R ⟨c, F, ρ, ω, d, ω', w, e, k⟩ => by
    obtain ⟨x, ω1, e1, e⟩ := bnd_some e
    obtain ⟨e2, rfl⟩ := opt_some e
    refine ⟨c, F, ρ, ω, x, _, w, e1, fun F1 H1 v p1 r1 => ?_⟩
    cases x <;> simp only [rg1, reduceCtorEq] at e2
    split at e2
    · rename_i hj
      cases e2
      cases r1.int
      obtain ⟨h1, h2⟩ := rgOk_iff hj
      exact ⟨_, rfl, h1, h2, k F1 H1 _ p1 itOk_range⟩
    · cases e2
theorem i_range2 {tg b : Expr} {g : EF} (hm : X.mg "range" = none) (h : PE X a (tB X.K f)) (h2 : PE X b (tB X.K g)) (hg : Gl X "range" := by rfl) (na : starEach [a, b] X.env = (false, eval a X.env) :: starEach [b] X.env := by rfl) (nb : starEach [b] X.env = (false, eval b X.env) :: starEach [] X.env := by rfl) (hs : starEach [a, b] X.env = [(false, eval a X.env), (false, eval b X.env)] := by rfl) (hs2 : starEach [b] X.env = [(false, eval b X.env)] := by rfl) : PI X tg (.Call (.Name "range" p) [a, b] [] pos) (tI X.K (itR2 f g)) :=
  pi_weak (pi_range2 hg hm (pa_cons h (pa_cons h2 pa_nil nb) na) hs hs2) fun σ H R ⟨c, F, ρ, ω, d, ω', w, e, k⟩ => by
    obtain ⟨x, ω1, e1, e⟩ := bnd_some e
    obtain ⟨y, ω2, e2, e⟩ := bnd_some e
    obtain ⟨e3, rfl⟩ := opt_some e
    refine ⟨c, F, ρ, ω, x, _, w, e1, fun F1 H1 v p1 r1 => ⟨c, F1, ρ, ω1, y, _, w.ext p1, e2, fun F2 H2 u p2 r2 => ?_⟩⟩
    unfold rg2 at e3
    split at e3
    · split at e3
      · rename_i hj
        rw [Bool.and_eq_true] at hj
        cases e3
        cases r1.int
        cases r2.int
        obtain ⟨h1, h2⟩ := rgOk_iff hj.1
        obtain ⟨h3, h4⟩ := rgOk_iff hj.2
        exact ⟨_, _, rfl, ⟨h1, h2, h3, h4⟩, k F2 H2 _ (p1.trans p2) itOk_range⟩
      · cases e3
    · cases e3
end

/-! ### for, while -/
def forL (b : GF) (body : SF) : List D → SF
  | [] => fun ρ => ret (.nx ρ)
  | d :: ds => fun ρ => bnd (opt (b d ρ)) fun ρ1 => bnd (body ρ1) fun o => match o with
    | .nx ρ' => forL b body ds ρ'
    | .ct ρ' => forL b body ds ρ'
    | .bk ρ' => ret (.nx ρ')
    | .rt o d => ret (.rt o d)
def forS (it : AF) (b : GF) (body : SF) : SF := fun ρ => bnd (it ρ) fun ds => forL b body ds ρ
theorem W.rebase {K : PySem.W.Frag} {c : Ctx} {F H : Hp} {σ : L2.St} {ρ : Env} {ω : Ora} (w : W K c F H σ ρ ω) : W K ⟨c.q, F, c.H0⟩ F H σ ρ ω :=
  ⟨⟨.refl F, fun _ _ => rfl, w.post.le, w.post.kept, w.post.ora⟩, w.len, w.fz, fun i x e => let ⟨p, h, r⟩ := w.ow i x e; ⟨p, h, r.f, r.h0, r.qf, r.r⟩, w.dj, w.tb, w.tr.mono rfl rfl (fun _ _ _ e => ⟨e, rfl⟩) (fun j y q e es => .inl ⟨j, y, e, es⟩) (.refl F) fun a t _ _ => ⟨rfl, t.f⟩⟩
theorem post_unbase {c : Ctx} {F1 H1 F H : Hp} {ω1 ω : Ora} (p : Post c.q c.F0 c.H0 F1 H1 ω1) (b : Post c.q F1 c.H0 F H ω) : Post c.q c.F0 c.H0 F H ω :=
  ⟨p.le0.trans b.le0, fun a ha => by rw [b.new a ha, p.new a ha], b.le, b.kept, b.ora⟩
theorem W.unbase {K : PySem.W.Frag} {c : Ctx} {F1 H1 F H : Hp} {σ : L2.St} {ρ : Env} {ω1 ω : Ora} (p : Post c.q c.F0 c.H0 F1 H1 ω1) (w : W K ⟨c.q, F1, c.H0⟩ F H σ ρ ω) : W K c F H σ ρ ω :=
  ⟨post_unbase p w.post, w.len, w.fz, fun i x e => let ⟨p, h, r⟩ := w.ow i x e; ⟨p, h, r.f, r.h0, r.qf, r.r⟩, w.dj, w.tb, w.tr.mono rfl rfl (fun _ _ _ e => ⟨e, rfl⟩) (fun j y q e es => .inl ⟨j, y, e, es⟩) (.refl F) fun a t _ _ => ⟨rfl, t.f⟩⟩
section
variable {X : Cx} {tg iter : Expr} {body : List Stmt} {it : AF} {b : GF} {s : SF} {is : List Nat} {pos : Pos}
theorem s_for (hc : X.calm = true) (hp : PassesOwn (model X.prog X.w) X.A X.env X.xe) (hi : PI X tg iter (tI X.K it)) (hg : PG X tg (tG X.K is b)) (hb : PSs X body (tS X.K s))
    (hs : ∀ x, foldedSetIterable iter X.env x = pure x := by intro _; rfl) : PS X (.For tg iter body [] pos) (tS X.K (forS it b s)) := ps_weak (ps_for hp hc hi hg hb hs) fun D σ H ⟨c, F, ρ, ω, o, ω', w, e, k⟩ => by
  obtain ⟨ds, ω1, e1, e⟩ := bnd_some e
  refine ⟨c, F, ρ, ω, ds, ω1, w, e1, fun F1 H1 J p1 hJ => ?_⟩
  have w1 := w.ext p1
  refine ⟨fun i m σ H => m = ds.length - i ∧ i ≤ ds.length ∧ ∃ F ρ ω, W X.K c F H σ ρ ω ∧ Same F1 F ∧ forL b s (ds.drop i) ρ ω = some (o, ω'), ⟨_, rfl, Nat.zero_le _, F1, ρ, ω1, w1, .refl _, e⟩, ?_⟩
  rintro i m σ H ⟨rfl, hi, F, ρ, ω, w, sF, e⟩
  obtain ⟨h1, h2⟩ := hJ F H ω sF w.post.le w.post.ora i
  by_cases hlt : i < ds.length
  · have hd : ds[i]? = some ds[i] := by simp [hlt]
    obtain ⟨go, yl⟩ := h1 _ hd
    have edrop : ds.drop i = ds[i] :: ds.drop (i + 1) := List.drop_eq_getElem_cons hlt
    rw [edrop] at e
    obtain ⟨ρ1, ω2, ea, eb⟩ := bnd_some e
    obtain ⟨o1, ω3, e3, ec⟩ := bnd_some eb
    obtain ⟨e2, rfl⟩ := opt_some ea
    refine .inr ⟨go, fun σ' H' => ∃ F' ρ' ω', W X.K c F' H' σ' ρ' ω' ∧ Same F1 F' ∧ forL b s (ds.drop (i + 1)) ρ' ω' = some (o, _), fun σ' H' ⟨F', ρ', ω', w', s', e'⟩ => ⟨_, by omega, rfl, by omega, F', ρ', ω', w', s', e'⟩, fun x H3 hy => ?_⟩
    obtain ⟨F3, p3, r3⟩ := yl x H3 hy
    have w3 := (w.ext p3).rebase
    refine ⟨_, F3, ρ, _, _, ρ1, w3, r3, e2, fun σ4 w4 _ _ => ⟨_, F3, ρ1, _, o1, ω3, w4, e3, ?_⟩⟩
    have pb : Post c.q c.F0 c.H0 F3 H3 _ := w.post.trans p3
    have sb : Same F1 F3 := sF.trans p3.le0
    cases o1 with
    | nx ρ' => exact fun F5 H5 σ5 w5 => ⟨F5, ρ', ω3, w5.unbase pb, sb.trans w5.post.le0, ec⟩
    | ct ρ' => exact fun F5 H5 σ5 w5 => ⟨F5, ρ', ω3, w5.unbase pb, sb.trans w5.post.le0, ec⟩
    | bk ρ' =>
      obtain ⟨rfl, rfl⟩ := ret_some ec
      exact fun F5 H5 σ5 w5 => k F5 H5 σ5 (w5.unbase pb)
    | rt bo d =>
      obtain ⟨rfl, rfl⟩ := ret_some ec
      cases bo with
      | false => exact fun F5 H5 v p5 r5 => k F5 H5 v (post_unbase pb p5) r5
      | true => exact fun F5 H5 v p5 r5 => k F5 H5 v (post_unbase pb p5) ⟨r5.f, r5.h0, r5.qf, r5.r⟩
  · have hge : ds.length ≤ i := by omega
    refine .inl ⟨h2 hge, ?_⟩
    rw [List.drop_of_length_le hge] at e
    obtain ⟨rfl, rfl⟩ := ret_some e
    exact k F H σ w
def whL (t : BF) (body : SF) : Nat → SF
  | 0 => fun _ => opt none
  | n + 1 => fun ρ => bnd (t ρ) fun x => bif x then bnd (body ρ) fun o => match o with
    | .nx ρ' => whL t body n ρ'
    | .ct ρ' => whL t body n ρ'
    | .bk ρ' => ret (.nx ρ')
    | .rt o d => ret (.rt o d) else ret (.nx ρ)
def WF : Nat := 1000000
def whS (t : BF) (body : SF) : SF := whL t body WF
theorem s_while {c : Expr} {t : BF} (hp : PassesOwn (model X.prog X.w) X.A X.env X.xe) (hc : PT X c (tT' X.K t)) (hb : PSs X body (tS X.K s)) : PS X (.While c body [] pos) (tS X.K (whS t s)) := ps_weak (ps_while hp hc hb) fun D σ H ⟨c, F, ρ, ω, o, ω', w, e, k⟩ => by
  refine ⟨fun m σ H => ∃ F ρ ω, W X.K c F H σ ρ ω ∧ whL t s m ρ ω = some (o, ω'), ⟨WF, F, ρ, ω, w, e⟩, ?_⟩
  rintro m σ H ⟨F, ρ, ω, w, e⟩
  cases m with
  | zero => cases e
  | succ n =>
    obtain ⟨x, ω1, e1, e⟩ := bnd_some e
    refine ⟨c, F, ρ, ω, x, ω1, w, e1, fun F1 H1 p1 => ?_⟩
    cases x with
    | false =>
      obtain ⟨rfl, rfl⟩ := ret_some e
      exact iteF (k F1 H1 σ (w.ext p1))
    | true =>
      obtain ⟨o1, ω2, e2, e⟩ := bnd_some e
      refine iteT ⟨fun σ' H' => ∃ F ρ ω, W X.K c F H' σ' ρ ω ∧ whL t s n ρ ω = some (o, ω'), fun σ' H' h => ⟨n, Nat.lt_succ_self _, h⟩, c, F1, ρ, ω1, o1, ω2, w.ext p1, e2, ?_⟩
      cases o1 with
      | nx ρ' => exact fun F5 H5 σ5 w5 => ⟨F5, ρ', ω2, w5, e⟩
      | ct ρ' => exact fun F5 H5 σ5 w5 => ⟨F5, ρ', ω2, w5, e⟩
      | bk ρ' =>
        obtain ⟨rfl, rfl⟩ := ret_some e
        exact fun F5 H5 σ5 w5 => k F5 H5 σ5 w5
      | rt bo d =>
        obtain ⟨rfl, rfl⟩ := ret_some e
        cases bo with
        | false => exact fun F5 H5 v p5 r5 => k F5 H5 v p5 r5
        | true => exact fun F5 H5 v p5 r5 => k F5 H5 v p5 r5
end

/-! ### comprehensions -/
def lcL (b : GF) (tt : BF) (el : EF) (ρ : Env) : List D → M (List D)
  | [] => ret []
  | d :: ds => bnd (opt (b d ρ)) fun ρ1 => bnd (tt ρ1) fun t => bif t then bnd (el ρ1) fun x => bnd (lcL b tt el ρ ds) fun r => ret (x :: r) else lcL b tt el ρ ds
def lcE (it : AF) (b : GF) (tt : BF) (el : EF) (vs : List Nat) : EF := fun ρ => bnd (it ρ) fun ds => if ds.length ≤ sizeLine then bnd (lcL b tt el (fgt vs ρ) ds) fun xs => ret (.lst xs) else opt none
theorem wipe_get : ∀ (vs : List Nat) (σ : L2.St) (j : Nat), (wipe σ vs)[j]? = if j ∈ vs then (if j < σ.length then some none else none) else σ[j]?
  | [], σ, j => by simp [wipe]
  | v :: vs, σ, j => by
    unfold wipe
    rw [List.getElem?_set, wipe_length, wipe_get vs σ j]
    by_cases h : v = j
    · subst h; simp
    · rw [if_neg h]
      have : j ∈ v :: vs ↔ j ∈ vs := by simp [Ne.symm h]
      simp only [this]
theorem nth_fgt : ∀ (vs : List Nat) (ρ : Env) (j : Nat), nth (fgt vs ρ) j = if j ∈ vs then .un else nth ρ j
  | [], ρ, j => by simp [FL.fgt]
  | v :: vs, ρ, j => by
    unfold FL.fgt
    rw [nth_sset, nth_fgt vs ρ j]
    by_cases h : j = v
    · subst h; simp
    · rw [if_neg h]
      have : j ∈ v :: vs ↔ j ∈ vs := by simp [h]
      simp only [this]
theorem fgt_length : ∀ (vs : List Nat) (ρ : Env), (fgt vs ρ).length = ρ.length
  | [], _ => rfl
  | v :: vs, ρ => by unfold FL.fgt; rw [sset_length, fgt_length vs ρ]
theorem W.wipe {K : PySem.W.Frag} {c : Ctx} {F H : Hp} {σ : L2.St} {ρ : Env} {ω : Ora} (w : W K c F H σ ρ ω) (vs : List Nat) : W K c F H (wipe σ vs) (FL.fgt vs ρ) ω := by
  have g : ∀ j x, (nth (FL.fgt vs ρ) j = .d x → j ∉ vs ∧ nth ρ j = .d x) ∧ (nth (FL.fgt vs ρ) j = .o x → j ∉ vs ∧ nth ρ j = .o x) := fun j x => by
    rw [nth_fgt]
    by_cases h : j ∈ vs
    · rw [if_pos h]; exact ⟨(fun z => nomatch z), (fun z => nomatch z)⟩
    · rw [if_neg h]; exact ⟨fun z => ⟨h, z⟩, fun z => ⟨h, z⟩⟩
  have gt : ∀ j n x, nth (FL.fgt vs ρ) j = .t n x → j ∉ vs ∧ nth ρ j = .t n x := fun j n x => by
    rw [nth_fgt]
    by_cases h : j ∈ vs
    · rw [if_pos h]; exact fun z => nomatch z
    · rw [if_neg h]; exact fun z => ⟨h, z⟩
  refine ⟨w.post, by rw [wipe_length, fgt_length]; exact w.len, fun j x e => ?_, fun j x e => ?_, fun i j x y h e1 e2 => ?_, w.tb, w.tr.slots (fun j n x e => ⟨(gt j n x e).2, by rw [wipe_get, if_neg (gt j n x e).1]⟩) fun j x e => ⟨((g j x).2 e).2, by rw [wipe_get, if_neg ((g j x).2 e).1]⟩⟩
  · obtain ⟨h1, h2⟩ := (g j x).1 e
    rw [wipe_get, if_neg h1]
    exact w.fz j x h2
  · obtain ⟨h1, h2⟩ := (g j x).2 e
    rw [wipe_get, if_neg h1]
    exact w.ow j x h2
  · obtain ⟨h1, h2⟩ := (g i x).2 e1
    obtain ⟨h3, h4⟩ := (g j y).2 e2
    rw [wipe_get, if_neg h1, wipe_get, if_neg h3]
    exact w.dj i j x y h h2 h4
theorem wipe_eq {σ σ2 : L2.St} {vs : List Nat} (hl : σ2.length = σ.length) (h : ∀ j, j ∉ vs → σ2[j]? = (wipe σ vs)[j]?) : wipe σ2 vs = wipe σ vs := by
  apply List.ext_getElem?
  intro j
  rw [wipe_get, wipe_get, hl]
  by_cases hj : j ∈ vs
  · rw [if_pos hj, if_pos hj]
  · rw [if_neg hj, if_neg hj, h j hj, wipe_get, if_neg hj]
theorem Post.upd_free {q : Qa} {F1 H1 F H : Hp} {ω1 ω : Ora} (p : Post q F1 H1 F H ω) (o : OraR q F1 H1 ω1) {D : Addr} {u : HO} (h1 : H1 D = none) (hF : F D = none) : Post q F1 H1 F (upd H D u) ω where
  le0 := p.le0
  new := p.new
  le := fun a x e => by rw [upd_ne fun z => by subst z; rw [hF] at e; cases e]; exact p.le a x e
  kept := fun a x e qf => by rw [upd_ne fun z => by subst z; rw [h1] at e; cases e]; exact p.kept a x e qf
  ora := ora_updH p.ora (qfree_none o h1)
theorem lc_core2 {K : PySem.W.Frag} {it : AF} {b : GF} {tt : BF} {el : EF} {vs is : List Nat} (hsub : ∀ j ∈ is, j ∈ vs) {σ : L2.St} {H : Hp} {Q : VK} (h : tF K (lcE it b tt el vs) σ H Q) : tLc (tI K it) (tG K is b) (tT' K tt) (tE K el) vs σ H Q := by
  obtain ⟨c, F, ρ, ω, d, ω', w, e, k⟩ := h
  obtain ⟨ds, ω1, e1, e⟩ := bnd_some e
  split at e
  · rename_i hz
    obtain ⟨xs, ω2, e2, e⟩ := bnd_some e
    obtain ⟨rfl, rfl⟩ := ret_some e
    refine ⟨c, F, ρ, ω, ds, ω1, w, e1, fun F1 H1 J p1 hJ D hD => ?_⟩
    have w1 := w.ext p1
    have hF1 : F1 D = none := same_none p1.le hD
    refine ⟨fun i m H => m = ds.length - i ∧ i ≤ ds.length ∧ ∃ F ω acc da r, Post c.q F1 H1 F H ω ∧ F D = none ∧ H D = some (.lst acc) ∧ Reps K c.q F acc da ∧ acc.length ≤ i ∧ lcL b tt el (FL.fgt vs ρ) (ds.drop i) ω = some (r, ω') ∧ da ++ r = xs,
      ⟨_, rfl, Nat.zero_le _, F1, ω1, [], [], xs, Post.fresh p1.le p1.ora hD, hF1, upd_same, .nil, Nat.le_refl _, e2, rfl⟩, ?_⟩
    rintro i m H ⟨rfl, hi, F, ω, acc, da, r, p, hF, hH, rr, hacc, e, hx⟩
    obtain ⟨h1, h2⟩ := hJ F H ω p.le0 p.le p.ora i
    by_cases hlt : i < ds.length
    · have hd : ds[i]? = some ds[i] := by simp [hlt]
      obtain ⟨go, yl⟩ := h1 _ hd
      have edrop : ds.drop i = ds[i] :: ds.drop (i + 1) := List.drop_eq_getElem_cons hlt
      rw [edrop] at e
      obtain ⟨ρ1, ω3, ea, eb⟩ := bnd_some e
      obtain ⟨t, ω4, e4, ec⟩ := bnd_some eb
      obtain ⟨e3, rfl⟩ := opt_some ea
      refine .inr ⟨go, fun H' => i + 1 ≤ ds.length ∧ ∃ F ω acc da r, Post c.q F1 H1 F H' ω ∧ F D = none ∧ H' D = some (.lst acc) ∧ Reps K c.q F acc da ∧ acc.length ≤ i + 1 ∧ lcL b tt el (FL.fgt vs ρ) (ds.drop (i + 1)) ω = some (r, ω') ∧ da ++ r = xs, fun H' h => ⟨_, by omega, rfl, h⟩, fun x H3 hy => ?_⟩
      obtain ⟨F3, p3, r3⟩ := yl x H3 hy
      have wi := (((w1.ext p).ext p3).wipe vs)
      refine ⟨c, F3, _, _, _, ρ1, wi, r3, e3, fun σ4 w4 l4 hs4 => ⟨wipe_eq (by rw [l4, wipe_length]) (fun j hj => hs4 j fun z => hj (hsub j z)), c, F3, ρ1, _, t, ω4, w4, e4, fun F5 H5 p5 => ?_⟩⟩
      have qfD : Qfree c.q D := qfree_none p1.ora hD
      have hH5 : H5 D = some (.lst acc) := p5.kept _ _ (p3.kept _ _ hH qfD) qfD
      have hF5 : F5 D = none := by
        rw [p5.new D (by rw [p3.kept _ _ hH qfD]; exact trivial), p3.new D (by rw [hH]; exact trivial)]; exact hF
      have pp := (p.trans p3).trans p5
      cases t with
      | false => exact iteF ⟨hlt, F5, ω4, acc, da, r, pp, hF5, hH5, (rr.mono p3.le0).mono p5.le0, by omega, ec, hx⟩
      | true =>
        obtain ⟨y, ω5, e5, ed⟩ := bnd_some ec
        obtain ⟨r', ω6, e6, ee⟩ := bnd_some ed
        obtain ⟨rfl, rfl⟩ := ret_some ee
        refine iteT ⟨c, F5, ρ1, ω4, y, ω5, w4.ext p5, e5, fun F6 H6 v p6 r6 => ⟨acc, p6.kept _ _ hH5 qfD, by omega, hlt, F6, ω5, acc ++ [v], da ++ [y], r', (pp.trans p6).upd_free p1.ora hD ?_, ?_, upd_same, (((rr.mono p3.le0).mono p5.le0).mono p6.le0).append (.cons r6 .nil), by rw [List.length_append]; simp; omega, e6, by rw [← hx, List.append_assoc]; rfl⟩⟩
        all_goals (rw [p6.new D (by rw [hH5]; exact trivial)]; exact hF5)
    · have hge : ds.length ≤ i := by omega
      refine .inl ⟨h2 hge, ?_⟩
      rw [List.drop_of_length_le hge] at e
      obtain ⟨rfl, rfl⟩ := ret_some e
      rw [List.append_nil] at hx
      subst hx
      exact k F H D (p1.trans p) (none_back p1 hD) hF ⟨_, hH, rr⟩
  · cases e
end FL
end
section
/-! FL: comprehensions as values, calls, defs, the law. -/
namespace FL
open PySem PySem.Spec PyProof.Rows L2

section
variable {X : Cx} {elt tg iter : Expr} {ifs : List Expr} {scope : Scope} {pos : Pos} {it : AF} {b : GF} {tt : BF} {el : EF} {is : List Nat}
def yesB : BF := fun _ => ret true
theorem t_yes : PTs X [] (tT' X.K yesB) := ⟨fun pins s σ H Q I ⟨c, F, ρ, ω, d, ω', w, e, q⟩ => by
  obtain ⟨rfl, rfl⟩ := ret_some e
  exact wpAny_tests_nil ⟨H, I, q F H w.self⟩⟩
theorem t_one {c : Expr} (h : PT X c (tT' X.K tt)) : PTs X [c] (tT' X.K tt) := pts_one h
theorem f_lc (own : List (Str × Nat)) (hN : X.N.Nodup) (hi : PI X tg iter (tI X.K it))
    (hg : ∀ (s : Shared) (H : Hp) (C : Addr) (cl : List (Str × Addr)) (fp : List Addr), PG (X.blk s H scope (compEnvC scope cl C X.env) fp) tg (tG X.K is b))
    (ht : ∀ (s : Shared) (H : Hp) (C : Addr) (cl : List (Str × Addr)) (fp : List Addr), PTs (X.blk s H scope (compEnvC scope cl C X.env) fp) ifs (tT' X.K tt))
    (he : ∀ (s : Shared) (H : Hp) (C : Addr) (cl : List (Str × Addr)) (fp : List Addr), PE (X.blk s H scope (compEnvC scope cl C X.env) fp) elt (tE X.K el))
    (ok : blkC X.N X.env.scope scope own = true := by kernel_rfl) (hsub : ∀ j ∈ is, j ∈ own.map (·.2) := by decide) (hc : X.calm = true := by rfl) (hs : ∀ x, foldedSetIterable iter X.env x = pure x := by intro _; rfl) :
    PE X (.ListComp elt [⟨tg, iter, ifs, 0⟩] scope pos) (tF X.K (lcE it b tt el (own.map (·.2)))) :=
  pe_weak (pe_lc (own := own) hc hN hi (blkOk_by ok) hg ht he hs) fun σ H Q h => lc_core2 hsub h
theorem s_lcO (i : Nat) (own : List (Str × Nat)) {y : Str} {py : Pos} {spos : Pos} (hN : X.N.Nodup) (hi : PI X tg iter (tI X.K it))
    (hg : ∀ (s : Shared) (H : Hp) (C : Addr) (cl : List (Str × Addr)) (fp : List Addr), PG (X.blk s H scope (compEnvC scope cl C X.env) fp) tg (tG X.K is b))
    (ht : ∀ (s : Shared) (H : Hp) (C : Addr) (cl : List (Str × Addr)) (fp : List Addr), PTs (X.blk s H scope (compEnvC scope cl C X.env) fp) ifs (tT' X.K tt))
    (he : ∀ (s : Shared) (H : Hp) (C : Addr) (cl : List (Str × Addr)) (fp : List Addr), PE (X.blk s H scope (compEnvC scope cl C X.env) fp) elt (tE X.K el))
    (hy : X.N[i]? = some y := by rfl) (hyl : X.env.scope.names.lookup y = some .local := by rfl)
    (hsw : swapsWith (.ListComp elt [⟨tg, iter, ifs, 0⟩] scope pos) (some (.Name y py)) spos.line X.env = pure true := by exact sw_true rfl rfl rfl (by decide +kernel))
    (ok : blkC X.N X.env.scope scope own = true := by kernel_rfl) (hsub : ∀ j ∈ is, j ∈ own.map (·.2) := by decide) (hc : X.calm = true := by rfl) (hs : ∀ x, foldedSetIterable iter X.env x = pure x := by intro _; rfl) :
    PS X (.Assign [.Name y py] (.ListComp elt [⟨tg, iter, ifs, 0⟩] scope pos) spos) (tS X.K (setO i (lcE it b tt el (own.map (·.2))))) :=
  s_setOA i (ps_setLc (own := own) hc hN hy hyl hsw hi (blkOk_by ok) hg ht he hs) fun σ H Q h => lc_core2 hsub h
theorem tF_tE {K : PySem.W.Frag} {f : EF} {σ : L2.St} {H : Hp} {Q : VK} (hl : ∀ ρ ω d ω', f ρ ω = some (d, ω') → isDic d = false) (h : tE K f σ H Q) : tF K f σ H Q := by
  obtain ⟨c, F, ρ, ω, d, ω', w, e, q⟩ := h
  exact ⟨c, F, ρ, ω, d, ω', w, e, fun F' H' p po hn hp o => by
    obtain ⟨u, hu, r⟩ := o.rep hp (hl _ _ _ _ e)
    exact q _ H' _ (po.freeze w.post.ora hn hu) r⟩
theorem lcE_nd {it : AF} {b : GF} {tt : BF} {el : EF} {vs : List Nat} : ∀ ρ ω d ω', lcE it b tt el vs ρ ω = some (d, ω') → isDic d = false := fun ρ ω d ω' e => by
  obtain ⟨ds, ω1, e1, e⟩ := bnd_some e
  split at e
  · obtain ⟨xs, ω2, e2, e⟩ := bnd_some e
    obtain ⟨rfl, rfl⟩ := ret_some e
    rfl
  · cases e
theorem s_lcD (i : Nat) (own : List (Str × Nat)) {y : Str} {py : Pos} {spos : Pos} (hN : X.N.Nodup) (hi : PI X tg iter (tI X.K it))
    (hg : ∀ (s : Shared) (H : Hp) (C : Addr) (cl : List (Str × Addr)) (fp : List Addr), PG (X.blk s H scope (compEnvC scope cl C X.env) fp) tg (tG X.K is b))
    (ht : ∀ (s : Shared) (H : Hp) (C : Addr) (cl : List (Str × Addr)) (fp : List Addr), PTs (X.blk s H scope (compEnvC scope cl C X.env) fp) ifs (tT' X.K tt))
    (he : ∀ (s : Shared) (H : Hp) (C : Addr) (cl : List (Str × Addr)) (fp : List Addr), PE (X.blk s H scope (compEnvC scope cl C X.env) fp) elt (tE X.K el))
    (hy : X.N[i]? = some y := by rfl) (hyl : X.env.scope.names.lookup y = some .local := by rfl)
    (hsw : swapsWith (.ListComp elt [⟨tg, iter, ifs, 0⟩] scope pos) (some (.Name y py)) spos.line X.env = pure true := by exact sw_true rfl rfl rfl (by decide +kernel))
    (ok : blkC X.N X.env.scope scope own = true := by kernel_rfl) (hsub : ∀ j ∈ is, j ∈ own.map (·.2) := by decide) (hc : X.calm = true := by rfl) (hs : ∀ x, foldedSetIterable iter X.env x = pure x := by intro _; rfl) :
    PS X (.Assign [.Name y py] (.ListComp elt [⟨tg, iter, ifs, 0⟩] scope pos) spos) (tS X.K (setD i (lcE it b tt el (own.map (·.2))))) :=
  s_setDA i (ps_setLc (own := own) hc hN hy hyl hsw hi (blkOk_by ok) hg ht he hs) fun σ H Q h => lc_core2 hsub (tF_tE lcE_nd h)
end

/-! ### defs -/
def spD (K : PySem.W.Frag) (fr : Bool) (m : List D → M D) : Sp := fun vs H Q _ => ∃ q F ds ω d ω', Same F H ∧ ((∀ P, TblK K P → q.T P) ∧ OraR q F H ω) ∧ Reps K q F vs ds ∧ m ds ω = some (d, ω') ∧
  ∀ F' H' v, Post q F H F' H' ω' → (match fr with
    | false => Rep K q F' v d
    | true => ∃ p, v = .ref p ∧ H p = none ∧ F' p = none ∧ OwnR K q F' H' p d) → Q v H'
def mkE : List D → Nat → Env
  | [], n => List.replicate n .un
  | d :: ds, n => .d d :: mkE ds n
theorem mkE_length : ∀ (ds : List D) (n : Nat), (mkE ds n).length = ds.length + n
  | [], n => by simp [mkE]
  | d :: ds, n => by simp [mkE, mkE_length ds n]; omega
theorem nth_rep : ∀ (n i : Nat), nth (List.replicate n SV.un) i = .un
  | 0, _ => rfl
  | n + 1, 0 => rfl
  | n + 1, i + 1 => nth_rep n i
theorem nth_mkE : ∀ (ds : List D) (n i : Nat), (∀ x, nth (mkE ds n) i = .d x → ds[i]? = some x) ∧ ∀ x, nth (mkE ds n) i ≠ .o x
  | [], n, i => ⟨fun x h => (by have e : nth (mkE [] n) i = .un := nth_rep n i
                                rw [e] at h; cases h), fun x h => (by have e : nth (mkE [] n) i = .un := nth_rep n i
                                                                      rw [e] at h; cases h)⟩
  | d :: ds, n, 0 => ⟨fun x h => by cases h; rfl, fun x h => nomatch h⟩
  | d :: ds, n, i + 1 => nth_mkE ds n i
theorem nth_mkET : ∀ (ds : List D) (n i m : Nat) (x : D), nth (mkE ds n) i ≠ .t m x
  | [], n, i, m, x, h => by
    have e : nth (mkE [] n) i = .un := nth_rep n i
    rw [e] at h; cases h
  | d :: ds, n, 0, m, x, h => nomatch h
  | d :: ds, n, i + 1, m, x, h => nth_mkET ds n i m x h
/-- .. -/
def outO (fr : Bool) : Out → Option D
  | .rt o d => if ((fr && !o) || (!fr && (o && isDic d))) = true then none else some d
  | .nx _ => if fr = true then none else some .non
  | _ => none
def runS (n ar : Nat) (fr : Bool) (s : SF) : List D → M D := fun ds => if ds.length = ar then bnd (s (mkE ds (n - ar))) fun o => opt (outO fr o) else opt none
theorem runS_len {n ar : Nat} {fr : Bool} {s : SF} {ds : List D} {ω ω' : Ora} {d : D} (h : runS n ar fr s ds ω = some (d, ω')) : ds.length = ar := by
  unfold runS at h
  split at h
  · assumption
  · cases h
section
variable {P : Program} {w : World} {K : PySem.W.Frag} {mg : Str → Option Value} {base : Heap}
/-- the reading of a body at a call -/
theorem spD_run {N ps : List Str} {fr : Bool} {s : SF} (hps : N.take ps.length = ps) {vs : List V} {H : Hp} {Q : VK} {E : XK} (h : spD K fr (runS N.length ps.length fr s) vs H Q E) : tS K s { nx := fun _ H' => Q .non H', rt := Q } (L2.start N vs) H := by
  obtain ⟨q, F, ds, ω, d, ω', hs, ho, hr, e, k⟩ := h
  have hlen := runS_len e
  unfold runS at e
  rw [if_pos hlen] at e
  obtain ⟨o, ω1, e1, e⟩ := bnd_some e
  obtain ⟨e2, rfl⟩ := opt_some e
  have hN : ps.length ≤ N.length := by
    have := congrArg List.length hps
    rw [List.length_take] at this
    omega
  have hvl := hr.length
  refine ⟨⟨q, F, H⟩, F, mkE ds (N.length - ps.length), ω, o, _, ⟨.mk0 hs ho.2, ?_, fun i x hx => ?_, fun i x hx => absurd hx ((nth_mkE ds _ i).2 x), fun i j x y _ hx _ => absurd hx ((nth_mkE ds _ i).2 x), ho.1, .no fun i n x hx => nth_mkET ds _ i n x hx⟩, e1, ?_⟩
  · unfold L2.start
    rw [List.length_append, List.length_map, List.length_replicate, mkE_length, hvl, hlen]
  · have h1 := (nth_mkE ds _ i).1 x hx
    obtain ⟨v, h2, h3⟩ := hr.get h1
    refine ⟨v, ?_, h3⟩
    unfold L2.start
    rw [List.getElem?_append_left (by rw [List.length_map]; exact (List.getElem?_eq_some_iff.mp h2).1), List.getElem?_map, h2]; rfl
  · cases o with
    | nx ρ =>
      cases fr with
      | true => cases e2
      | false =>
        cases e2
        exact fun F' H' σ' w' => k F' H' _ w'.post .non
    | rt bo d' =>
      cases fr with
      | false =>
        have hd : d' = d ∧ (bo = true → isDic d' = false) := by
          cases bo
          · simpa [outO] using e2
          · cases hq : isDic d' <;> simp [outO, hq] at e2 ⊢
            exact e2
        obtain ⟨rfl, nd⟩ := hd
        cases bo with
        | false => exact fun F' H' v p r => k F' H' v p r
        | true =>
          have nd := nd rfl
          intro F' H' p po r
          obtain ⟨u, hu, rr⟩ := r.r.rep r.f nd
          exact k _ H' _ (po.freeze ho.2 r.h0 hu) rr
      | true =>
        cases bo with
        | false => cases e2
        | true =>
          have hd : d' = d := by simpa [outO] using e2
          subst hd
          exact fun F' H' p po r => k F' H' _ po ⟨p, rfl, r.h0, r.f, r.r⟩
    | bk ρ => cases e2
    | ct ρ => cases e2
theorem fn_ok {x qual : Str} {st : Stmt} {f : Addr} {fd : FuncData} {N ps : List Str} {k : Nat} (F : Fun K x qual st f fd) (S : FnScope N ps (defScope st)) (fr : Bool) {s : SF}
    (hb : ∀ (cdv : Value) (A : Around) (outer : List PySem.Env) (s' : Shared) (H : Hp) (E : XK), Room k (A.deeper (envOfC qual (defScope st) s'.heap.objs.size f cdv)) →
      PSs (cxOf CX0 P w K mg base N qual (defScope st) f cdv A outer s' H E).nox (defBody st) (tS K s)) :
    FnOk P w K mg base CX0 (k + 1) f fd ps (spD K fr (runS N.length ps.length fr s)) :=
  F.ok S (fun vs H Q E h => by
    obtain ⟨q, F, ds, ω, d, ω', hs, ho, hr, e, k⟩ := h
    rw [hr.length, runS_len e]) fun cdv A outer s' H vs Q E hr hsp => ⟨_, hb cdv A outer s' H E hr, spD_run S.pre hsp⟩
theorem fn_never {f : Addr} {fd : FuncData} {ps : List Str} {fr : Bool} {m : List D → M D} (h : ∀ ds ω, m ds ω = none) {k : Nat} : FnOk P w K mg base CX0 k f fd ps (spD K fr m) :=
  ⟨fun vs H Q E ⟨q, F, ds, ω, d, ω', hs, ho, hr, e, k⟩ => (by rw [h] at e; cases e), fun A outer s H args us vs Q E hr he hb hv ⟨q, F, ds, ω, d, ω', hs, ho, hr', e, k⟩ => (by rw [h] at e; cases e)⟩
/-- another function with the same values where it has one -/
theorem fn_eq {f : Addr} {fd : FuncData} {ps : List Str} {fr : Bool} {m m' : List D → M D} {k : Nat} (F : FnOk P w K mg base CX0 k f fd ps (spD K fr m)) (h : ∀ ds ω r, m' ds ω = some r → m ds ω = some r) : FnOk P w K mg base CX0 k f fd ps (spD K fr m') :=
  F.imp fun vs H Q E ⟨q, F, ds, ω, d, ω', hs, ho, hr, e, k⟩ => ⟨q, F, ds, ω, d, ω', hs, ho, hr, h _ _ _ e, k⟩
end

/-! ### calls of defs -/
def callE (m : List D → M D) (g : AF) : EF := fun ρ => bnd (g ρ) m
section
variable {X : Cx} {k : Nat} {f : Addr} {fd : FuncData} {ps : List Str} {m : List D → M D} {x : Str} {p pos : Pos} {e : Expr} {es : List Expr} {g : AF}
theorem e_call (F : FnOk X.prog X.w X.K X.mg X.base CX0 k f fd ps (spD X.K false m)) (hr : Room k X.A) (hm : X.mg x = some (.ref f)) (hk : PySem.W.keepIn X.K (.ref f) = true) (hb : Binds X.K fd ps []) (ha : PA X (e :: es) (tAE X.K g)) (hg : Gl X x := by rfl)
    (hdb : (x == ("__debug__" : Str)) = false := by decide) (he : starEach (e :: es) X.env = (false, eval e X.env) :: starEach es X.env := by rfl) (hpl : (backTo pos (starEach es X.env)).any (·.1) = false := by rfl) :
    PE X (.Call (.Name x p) (e :: es) [] pos) (tE X.K (callE m g)) := pe_weak (pe_call F hr hg hm hk hb .nil pass0 ha hdb he hpl) fun σ H Q ⟨c, F, ρ, ω, d, ω', w, e, q⟩ => by
  obtain ⟨ds, ω1, e1, e⟩ := bnd_some e
  refine ⟨c, F, ρ, ω, ds, ω1, w, e1, fun F1 H1 vs p1 r1 => ?_⟩
  show spD X.K _ m (vs ++ []) H1 Q E0
  rw [List.append_nil]
  exact ⟨c.q, F1, ds, ω1, d, ω', p1.le, ⟨w.tb, p1.ora⟩, r1, e, fun F2 H2 v p2 r2 => q F2 H2 v (p1.trans p2) r2⟩
theorem f_call (F : FnOk X.prog X.w X.K X.mg X.base CX0 k f fd ps (spD X.K true m)) (hr : Room k X.A) (hm : X.mg x = some (.ref f)) (hk : PySem.W.keepIn X.K (.ref f) = true) (hb : Binds X.K fd ps []) (ha : PA X (e :: es) (tAE X.K g)) (hg : Gl X x := by rfl)
    (hdb : (x == ("__debug__" : Str)) = false := by decide) (he : starEach (e :: es) X.env = (false, eval e X.env) :: starEach es X.env := by rfl) (hpl : (backTo pos (starEach es X.env)).any (·.1) = false := by rfl) :
    PE X (.Call (.Name x p) (e :: es) [] pos) (tF X.K (callE m g)) := pe_weak (pe_call F hr hg hm hk hb .nil pass0 ha hdb he hpl) fun σ H Q ⟨c, F, ρ, ω, d, ω', w, e, q⟩ => by
  obtain ⟨ds, ω1, e1, e⟩ := bnd_some e
  refine ⟨c, F, ρ, ω, ds, ω1, w, e1, fun F1 H1 vs p1 r1 => ?_⟩
  show spD X.K _ m (vs ++ []) H1 Q E0
  rw [List.append_nil]
  exact ⟨c.q, F1, ds, ω1, d, ω', p1.le, ⟨w.tb, p1.ora⟩, r1, e, fun F2 H2 v p2 ⟨p, ev, h1, h2, h3⟩ => by subst ev; exact q F2 H2 p (p1.trans p2) (none_back p1 h1) h2 h3⟩
end

/-! ### isinstance -/
def tyD : D → String
  | .non => "NoneType"
  | .bl _ => "bool"
  | .int _ => "int"
  | .str _ => "str"
  | .tup _ => "tuple"
  | .lst _ => "list"
  | .dic _ _ => "dict"
  | .tok => "list"
def isiD (T : String) : D → Option D
  | .tok => none
  | .dic _ _ => none
  | d => (kitB (tyD d) T).map .bl
theorem rd_ty {K : PySem.W.Frag} {q : Qa} {F H : Hp} {x : V} {a : D} (h : Vw K q F H x a) (s : Same F H) (n1 : a ≠ .tok) (n2 : ∀ t kvs, a ≠ .dic t kvs) : TyX K H x (.type (tyD a)) := by
  have hr := h.repH s (by cases a <;> first | rfl | exact absurd rfl (n2 _ _))
  cases hr with
  | non => exact .base .non
  | bl b => exact .base (.bl b)
  | int i => exact .base (.int i)
  | str x => exact .base (.str x)
  | tup hq _ =>
    exact .base (.tup hq)
  | lst e _ => exact .base (.lst e)
  | dic e _ => exact (n2 _ _ rfl).elim
  | dit e _ => exact (n2 _ _ rfl).elim
  | tok _ => exact (n1 rfl).elim
theorem isiD_some {T : String} {a d : D} (h : isiD T a = some d) : a ≠ .tok ∧ (∀ t kvs, a ≠ .dic t kvs) ∧ ∃ b, kitB (tyD a) T = some b ∧ d = .bl b := by
  unfold isiD at h
  split at h
  · cases h
  · cases h
  · rename_i h1 h2
    rw [Option.map_eq_some_iff] at h
    obtain ⟨b, h3, rfl⟩ := h
    exact ⟨h1, fun t kvs z => h2 t kvs z, b, h3, rfl⟩
section
variable {X : Cx} {a : Expr} {f : EF} {p p2 pos : Pos}
theorem e_isi (T : String) {xT : Str} (hm : X.mg "isinstance" = none) (hmT : X.mg xT = none) (h : PE X a (tB X.K f)) (hvT : bootBuiltins xT = some (.type T) := by first | assumption | decide +kernel) (hg : Gl X "isinstance" := by rfl) (hgT : Gl X xT := by rfl)
    (hnT : xT ≠ "__name__" := by decide) (hdT : (xT == ("__debug__" : Str)) = false := by decide)
    (na : starEach [a, .Name xT p2] X.env = (false, eval a X.env) :: starEach [.Name xT p2] X.env := by rfl) (nb : starEach [.Name xT p2] X.env = (false, eval (.Name xT p2) X.env) :: starEach [] X.env := by rfl)
    (hpl : (backTo pos (starEach [.Name xT p2] X.env)).any (·.1) = false := by rfl) :
    PE X (.Call (.Name "isinstance" p) [a, .Name xT p2] [] pos) (tE X.K (b1 (isiD T) f)) :=
  pe_weak (pe_callB call_isi hg hm PyProof.Rows.boot_isinstance (pa_cons h (pa_cons (pe_bltn (v := .ty T) hgT hmT hvT rfl hnT hdT) pa_nil nb) na) (he := na) (hpl := hpl)) fun σ H Q ⟨c, F, ρ, ω, d, ω', w, e, q⟩ => by
    obtain ⟨x, ω1, e1, e⟩ := bnd_some e
    obtain ⟨e2, rfl⟩ := opt_some e
    obtain ⟨n1, n2, b, hb, rfl⟩ := isiD_some e2
    exact ⟨c, F, ρ, ω, x, _, w, e1, fun F1 H1 v p1 r1 => ⟨v, .ty T, _, _, b, rfl, .ty T, rd_ty r1 p1.le n1 n2, kit_ty hb, q F1 H1 _ p1 (.bl b)⟩⟩
end

/-! ### sorted of ints -/
def insI (x : Int) : List Int → List Int
  | [] => [x]
  | y :: r => if x ≤ y then x :: y :: r else y :: insI x r
def srtI : List Int → List Int
  | [] => []
  | x :: r => insI x (srtI r)
theorem insI_perm (x : Int) : ∀ l : List Int, (insI x l).Perm (x :: l)
  | [] => .refl _
  | y :: r => by
    unfold insI
    split
    · exact .refl _
    · exact (List.Perm.cons y (insI_perm x r)).trans (List.Perm.swap x y r)
theorem insI_sorted (x : Int) : ∀ l : List Int, l.Pairwise (· ≤ ·) → (insI x l).Pairwise (· ≤ ·)
  | [], _ => List.pairwise_singleton _ _
  | y :: r, h => by
    unfold insI
    rw [List.pairwise_cons] at h
    split
    · rename_i hxy
      rw [List.pairwise_cons]
      refine ⟨fun z hz => ?_, List.pairwise_cons.mpr h⟩
      rcases List.mem_cons.mp hz with rfl | hz
      · exact hxy
      · exact Int.le_trans hxy (h.1 z hz)
    · rename_i hxy
      rw [List.pairwise_cons]
      refine ⟨fun z hz => ?_, insI_sorted x r h.2⟩
      rcases List.mem_cons.mp ((insI_perm x r).mem_iff.mp hz) with rfl | hz
      · omega
      · exact h.1 z hz
theorem srtI_perm : ∀ l : List Int, (srtI l).Perm l
  | [] => .refl _
  | x :: r => (insI_perm x (srtI r)).trans (.cons x (srtI_perm r))
theorem srtI_sorted : ∀ l : List Int, (srtI l).Pairwise (· ≤ ·)
  | [] => .nil
  | x :: r => insI_sorted x _ (srtI_sorted r)
theorem sorted_uniq : ∀ {l m : List Int}, l.Perm m → l.Pairwise (· ≤ ·) → m.Pairwise (· ≤ ·) → l = m := fun h h1 h2 =>
  h.eq_of_pairwise (fun a b _ _ x y => Int.le_antisymm x y) h1 h2
def aSort : List D → Option D
  | [.lst ds] => (intsOf ds).map fun ns => .lst ((srtI ns).map .int)
  | _ => none
theorem sort_pureF {K : PySem.W.Frag} : PureAF K (rSortedI K) aSort := by
  intro q F H ω xs a d Q hs ho hx e k
  unfold aSort at e
  split at e
  · rw [Option.map_eq_some_iff] at e
    obtain ⟨ns, e1, rfl⟩ := e
    obtain ⟨v, rfl, hv⟩ := hx.one
    cases intsOf_eq e1
    obtain ⟨p, vs, rfl, h1, r⟩ := hv.lst hs
    cases r.ints
    refine ⟨p, ns, rfl, .inl (.inl h1), fun ns' l hp hpw hl => ?_⟩
    rw [sorted_uniq (hp.trans (srtI_perm ns).symm) hpw (srtI_sorted ns)]
    exact k F _ l (Post.fresh hs ho hl) hl (same_none hs hl) ⟨_, upd_same, reps_ints _⟩
  · cases e
end FL
end
section
/-! FL: more that is walked; tuples repeated. -/
namespace FL
open PySem PySem.Spec PyProof.Rows L2

/-! ### lists or tuples -/
def iSeq (K : PySem.W.Frag) (tl : TE) : TI := fun σ H R => tl σ H fun x H1 => ∃ a, x = .ref a ∧ (((∃ xs, SqL K H1 a xs) ∧ R (Itl K a) H1) ∨ ((∃ xs, SqT K H1 a xs) ∧ R (Itt K a) H1))
section
variable {X : Cx} {tg a b c e : Expr} {f g h : EF} {pos p tpos : Pos} {elts : List Expr} {kk : Nat}
theorem pi_seq {l : Expr} {tl : TE} (hl : PE X l tl) : PI X tg l (iSeq X.K tl) := by
  refine ⟨fun pins s σ H R I h => ?_⟩
  refine thn (hl.run pins s σ H _ I h) fun v s1 ⟨x, H1, I1, r1, q1⟩ => ?_
  obtain ⟨a, e, q1⟩ := q1
  subst e
  cases r1
  rcases q1 with ⟨⟨xs, hq⟩, q⟩ | ⟨⟨xs, hq⟩, q⟩
  · obtain ⟨its, rv, p, hz⟩ := I1.list hq
    refine wpAny_pyIter_list p.isList ?_
    refine ⟨s1.heap.objs.size, [s1.heap.objs.size], _, _, H1, rfl, I1.kept (t' := s1.toks) fun b o e => Heap.get?_push_of_some _ e, turn_list a _, ⟨_, Heap.get?_push_size _ rfl, rfl, rfl⟩, fun b hb => ?_, q⟩
    have e : b = s1.heap.objs.size := by simpa using hb
    subst e
    exact I1.fpOk (Nat.le_refl _) (I1.hok.fresh (Nat.le_refl _))
  · obtain ⟨its, rv, p, hz⟩ := I1.tuple hq
    refine wpAny_pyIter_tuple (show s1.heap.IsTuple a its.toArray from p) ?_
    refine ⟨s1.heap.objs.size, [s1.heap.objs.size], _, _, H1, rfl, I1.kept (t' := s1.toks) fun b o e => Heap.get?_push_of_some _ e, turn_tuple a _, ⟨_, Heap.get?_push_size _ rfl, rfl, rfl⟩, fun b hb => ?_, q⟩
    have e : b = s1.heap.objs.size := by simpa using hb
    subst e
    exact I1.fpOk (Nat.le_refl _) (I1.hok.fresh (Nat.le_refl _))
def itS (f : EF) : AF := fun ρ => bnd (f ρ) fun d => opt (seqD d)
theorem itOk_list {K : PySem.W.Frag} {q : Qa} {F : Hp} {a : Addr} {vs : List V} {ds : List D} (hF : F a = some (.lst vs)) (r : Reps K q F vs ds) : ItOk K q F (Itl K a) ds := fun F2 H2 ω2 s1 s2 o i => ⟨fun d hd => by
    obtain ⟨u, h1, h2⟩ := r.get hd
    have hq := sql_inj (K := K) (s2 _ _ (s1 _ _ hF))
    exact ⟨⟨_, u, hq, h1⟩, fun x H3 hy => ⟨F2, by rw [hy.1]; exact .mk0 s2 o, by
      have := hy.2 _ hq
      rw [h1] at this
      cases this
      exact h2.mono s1⟩⟩, fun hi => ⟨_, sql_inj (s2 _ _ (s1 _ _ hF)), by rw [r.length]; exact hi⟩⟩
theorem itOk_tup {K : PySem.W.Frag} {q : Qa} {F : Hp} {a : Addr} {vs : List V} {ds : List D} (hF : SqT K F a vs) (r : Reps K q F vs ds) : ItOk K q F (Itt K a) ds := fun F2 H2 ω2 s1 s2 o i => ⟨fun d hd => by
    obtain ⟨u, h1, h2⟩ := r.get hd
    have hq := same_sqt s2 (same_sqt s1 hF)
    exact ⟨⟨_, u, hq, h1⟩, fun x H3 hy => ⟨F2, by rw [hy.1]; exact .mk0 s2 o, by
      have := hy.2 _ hq
      rw [h1] at this
      cases this
      exact h2.mono s1⟩⟩, fun hi => ⟨_, same_sqt s2 (same_sqt s1 hF), by rw [r.length]; exact hi⟩⟩
theorem Rep.seq {K : PySem.W.Frag} {q : Qa} {F : Hp} {v : V} {d : D} {ds : List D} (r : Rep K q F v d) (e : seqD d = some ds) : ∃ a vs, v = .ref a ∧ Reps K q F vs ds ∧ (F a = some (.lst vs) ∨ SqT K F a vs) := by
  rcases seqD_some e with rfl | rfl
  · cases r with | lst h r => exact ⟨_, _, rfl, r, .inl h⟩
  · cases r with | tup h r => exact ⟨_, _, rfl, r, .inr h.sq⟩
theorem i_seq (hl : PE X a (tE X.K f)) : PI X tg a (tI X.K (itS f)) := pi_weak (pi_seq hl) fun σ H R ⟨c, F, ρ, ω, d, ω', w, e, k⟩ => by
  obtain ⟨x, ω1, e1, e⟩ := bnd_some e
  obtain ⟨e2, rfl⟩ := opt_some e
  refine ⟨c, F, ρ, ω, x, _, w, e1, fun F1 H1 v p1 r1 => ?_⟩
  obtain ⟨a, vs, rfl, rr, h | h⟩ := r1.seq e2
  · exact ⟨a, rfl, .inl ⟨⟨vs, .inl (.inl (p1.le _ _ h))⟩, k F1 H1 _ p1 (itOk_list h rr)⟩⟩
  · exact ⟨a, rfl, .inr ⟨⟨vs, same_sqt p1.le h⟩, k F1 H1 _ p1 (itOk_tup h rr)⟩⟩

/-! ### range(a, b, c) -/
def upC (lo c : Int) : Nat → List D
  | 0 => []
  | n + 1 => .int lo :: upC (lo + c) c n
theorem upC_length (c : Int) : ∀ (n : Nat) (lo : Int), (upC lo c n).length = n
  | 0, _ => rfl
  | n + 1, lo => congrArg (· + 1) (upC_length c n (lo + c))
theorem upC_get (c : Int) : ∀ (n : Nat) (lo : Int) (i : Nat) (d : D), (upC lo c n)[i]? = some d → i < n ∧ d = .int (lo + (i : Nat) * c)
  | 0, _, _, _, h => by simp [upC] at h
  | n + 1, lo, 0, d, h => by simp [upC] at h; exact ⟨by omega, by rw [← h]; simp⟩
  | n + 1, lo, i + 1, d, h => by
    obtain ⟨h1, h2⟩ := upC_get c n (lo + c) i d (by simpa [upC] using h)
    refine ⟨by omega, ?_⟩
    rw [h2]
    congr 1
    rw [Int.natCast_succ, Int.add_mul, Int.one_mul]
    omega
theorem itOk_rangeC {K : PySem.W.Frag} {q : Qa} {F : Hp} {lo c : Int} {n : Nat} : ItOk K q F (Itc lo c n) (upC lo c n) := fun F2 H2 ω2 s1 s2 o i => ⟨fun d hd => by
    obtain ⟨h1, rfl⟩ := upC_get c n lo i d hd
    exact ⟨h1, fun x H3 hy => ⟨F2, by rw [hy.1]; exact .mk0 s2 o, by rw [hy.2]; exact .int _⟩⟩, fun hi => by
    rw [upC_length] at hi; exact hi⟩
def rgcOk (i j c : Int) : Bool := decide (c ≠ 0) && decide (c.natAbs < 1073741824) && Builtin.Range.small i j c && decide (Builtin.Range.rangeSize i j c = ((Builtin.Range.rangeSize i j c).toNat : Int))
def rg3 : D → D → D → Option (List D)
  | .int i, .int j, .int c => if rgcOk i j c = true then some (upC i c (Builtin.Range.rangeSize i j c).toNat) else none
  | _, _, _ => none
def itR3 (f g h : EF) : AF := fun ρ => bnd (f ρ) fun d => bnd (g ρ) fun e => bnd (h ρ) fun k => opt (rg3 d e k)
theorem i_range3 (hm : X.mg "range" = none) (h1 : PE X a (tB X.K f)) (h2 : PE X b (tB X.K g)) (h3 : PE X c (tB X.K h)) (hg : Gl X "range" := by rfl)
    (na : starEach [a, b, c] X.env = (false, eval a X.env) :: starEach [b, c] X.env := by rfl) (nb : starEach [b, c] X.env = (false, eval b X.env) :: starEach [c] X.env := by rfl) (nc : starEach [c] X.env = (false, eval c X.env) :: starEach [] X.env := by rfl)
    (hpl : (backTo pos (starEach [b, c] X.env)).any (·.1) = false := by rfl) : PI X tg (.Call (.Name "range" p) [a, b, c] [] pos) (tI X.K (itR3 f g h)) :=
  pi_weak (pi_range3 hg hm (pa_cons h1 (pa_cons h2 (pa_cons h3 pa_nil nc) nb) na) na hpl) fun σ H R ⟨c, F, ρ, ω, d, ω', w, e, k⟩ => by
    obtain ⟨x, ω1, e1, e⟩ := bnd_some e
    obtain ⟨y, ω2, e2, e⟩ := bnd_some e
    obtain ⟨z, ω3, e3, e⟩ := bnd_some e
    obtain ⟨e4, rfl⟩ := opt_some e
    refine ⟨c, F, ρ, ω, x, _, w, e1, fun F1 H1 v p1 r1 => ⟨c, F1, ρ, ω1, y, _, w.ext p1, e2, fun F2 H2 u p2 r2 => ⟨c, F2, ρ, ω2, z, _, (w.ext p1).ext p2, e3, fun F3 H3 t p3 r3 => ?_⟩⟩⟩
    unfold rg3 at e4
    split at e4
    · split at e4
      · rename_i hj
        simp only [rgcOk, Bool.and_eq_true, decide_eq_true_eq] at hj
        cases e4
        cases r1.int
        cases r2.int
        cases r3.int
        exact ⟨_, _, _, _, rfl, ⟨hj.1.1.1, hj.1.1.2, hj.1.2, hj.2⟩, k F3 H3 _ ((p1.trans p2).trans p3) itOk_rangeC⟩
      · cases e4
    · cases e4

/-! ### reversed(x) walked -/
def itV' (f : EF) : AF := fun ρ => bnd (f ρ) fun d => opt ((seqD d).map List.reverse)
theorem rev_get {α : Type} (ds : List α) (i : Nat) (h : i < ds.length) : ds.reverse[i]? = ds[ds.length - 1 - i]? := by
  rw [List.getElem?_reverse h]
theorem i_rev (hm : X.mg "reversed" = none) (h : PE X a (tE X.K f)) (hg : Gl X "reversed" := by rfl) (hs : starEach [a] X.env = (false, eval a X.env) :: starEach [] X.env := by rfl) : PI X tg (.Call (.Name "reversed" p) [a] [] pos) (tI X.K (itV' f)) :=
  pi_weak (RT.pi_revA hg hm h hs) fun σ H R ⟨c, F, ρ, ω, d, ω', w, e, k⟩ => by
    obtain ⟨x, ω1, e1, e⟩ := bnd_some e
    obtain ⟨e2, rfl⟩ := opt_some e
    rw [Option.map_eq_some_iff] at e2
    obtain ⟨ds, e3, rfl⟩ := e2
    refine ⟨c, F, ρ, ω, x, _, w, e1, fun F1 H1 v p1 r1 => ?_⟩
    obtain ⟨a, vs, rfl, rr, h | h⟩ := r1.seq e3
    · refine ⟨a, vs, rfl, .inl ⟨.inl (.inl (p1.le _ _ h)), k F1 H1 _ p1 fun F2 H2 ω2 s1 s2 o i => ⟨fun d hd => ?_, fun hi => ?_⟩⟩⟩
      · have hlt : i < ds.length := by
          have := (List.getElem?_eq_some_iff.mp hd).1
          rw [List.length_reverse] at this; exact this
        rw [rev_get ds i hlt, ← rr.length] at hd
        obtain ⟨u, h1, h2⟩ := rr.get hd
        have hq := sql_inj (K := X.K) (s2 _ _ (s1 _ _ h))
        exact ⟨⟨by rw [rr.length]; exact hlt, vs, u, hq, h1⟩, fun x H3 hy => ⟨F2, by rw [hy.1]; exact .mk0 s2 o, by
          have := hy.2 _ hq
          rw [h1] at this
          cases this
          exact h2.mono s1⟩⟩
      · rw [List.length_reverse] at hi
        show vs.length ≤ i
        rw [rr.length]; exact hi
    · refine ⟨a, vs, rfl, .inr ⟨same_sqt p1.le h, k F1 H1 _ p1 fun F2 H2 ω2 s1 s2 o i => ⟨fun d hd => ?_, fun hi => ?_⟩⟩⟩
      · have hlt : i < ds.length := by
          have := (List.getElem?_eq_some_iff.mp hd).1
          rw [List.length_reverse] at this; exact this
        rw [rev_get ds i hlt, ← rr.length] at hd
        obtain ⟨u, h1, h2⟩ := rr.get hd
        have hq := same_sqt s2 (same_sqt s1 h)
        exact ⟨⟨by rw [rr.length]; exact hlt, vs, u, hq, h1⟩, fun x H3 hy => ⟨F2, by rw [hy.1]; exact .mk0 s2 o, by
          have := hy.2 _ hq
          rw [h1] at this
          cases this
          exact h2.mono s1⟩⟩
      · rw [List.length_reverse] at hi
        show vs.length ≤ i
        rw [rr.length]; exact hi

/-! ### zip of two lists or of two tuples -/
def zipD : List D → List D → List D
  | x :: xs, y :: ys => .tup [x, y] :: zipD xs ys
  | _, _ => []
theorem zipD_get : ∀ (xs ys : List D) (i : Nat) (d : D), (zipD xs ys)[i]? = some d → ∃ x y, xs[i]? = some x ∧ ys[i]? = some y ∧ d = .tup [x, y]
  | [], _, i, d, h => by simp [zipD] at h
  | _ :: _, [], i, d, h => by simp [zipD] at h
  | x :: xs, y :: ys, 0, d, h => by simp [zipD] at h; exact ⟨x, y, rfl, rfl, h.symm⟩
  | x :: xs, y :: ys, i + 1, d, h => by
    obtain ⟨a, b, h1, h2, h3⟩ := zipD_get xs ys i d (by simpa [zipD] using h)
    exact ⟨a, b, by simpa using h1, by simpa using h2, h3⟩
theorem zipD_end : ∀ (xs ys : List D) (i : Nat), (zipD xs ys).length ≤ i → xs.length ≤ i ∨ ys.length ≤ i
  | [], _, i, _ => .inl (Nat.zero_le _)
  | _ :: _, [], i, _ => .inr (Nat.zero_le _)
  | x :: xs, y :: ys, 0, h => by simp [zipD] at h
  | x :: xs, y :: ys, i + 1, h => by
    rcases zipD_end xs ys i (by simpa [zipD] using h) with h | h
    · exact .inl (by simpa using h)
    · exact .inr (by simpa using h)
def zipO : List D → Option (List D)
  | [.lst a, .lst b] => some (zipD a b)
  | [.tup a, .tup b] => some (zipD a b)
  | _ => none
def itZ (g : AF) : AF := fun ρ => bnd (g ρ) fun ds => opt (zipO ds)
theorem i_zip {b : Expr} {g : AF} (hm : X.mg "zip" = none) (ha : PA X [a, b] (tAE X.K g)) (hg : Gl X "zip" := by rfl) (hs : starEach [a, b] X.env = (false, eval a X.env) :: starEach [b] X.env := by rfl) (hpl : (backTo pos (starEach [b] X.env)).any (·.1) = false := by rfl) :
    PI X (.Tuple elts kk tpos) (.Call (.Name "zip" p) [a, b] [] pos) (tI X.K (itZ g)) :=
  pi_weak (RZ.pi_zipA hg hm ha hs hpl) fun σ H R ⟨c, F, ρ, ω, d, ω', w, e, k⟩ => by
    obtain ⟨x, ω1, e1, e⟩ := bnd_some e
    obtain ⟨e2, rfl⟩ := opt_some e
    refine ⟨c, F, ρ, ω, x, _, w, e1, fun F1 H1 vs p1 r1 => ?_⟩
    unfold zipO at e2
    split at e2
    · cases e2
      cases r1 with
      | cons ra r1 =>
        cases r1 with
        | cons rb r1 =>
          cases r1
          cases ra with
          | lst ha ra =>
            cases rb with
            | lst hb rb =>
              refine ⟨_, _, _, _, rfl, .inl ⟨sql_inj (p1.le _ _ ha), sql_inj (p1.le _ _ hb), k F1 H1 _ p1 fun F2 H2 ω2 s1 s2 o i => ⟨fun d hd => ?_, fun hi => ?_⟩⟩⟩
              · obtain ⟨x, y, h1, h2, rfl⟩ := zipD_get _ _ _ _ hd
                obtain ⟨u, g1, g2⟩ := ra.get h1
                obtain ⟨t, g3, g4⟩ := rb.get h2
                have qa := sql_inj (K := X.K) (s2 _ _ (s1 _ _ ha))
                have qb := sql_inj (K := X.K) (s2 _ _ (s1 _ _ hb))
                refine ⟨⟨_, _, u, t, qa, qb, g1, g3⟩, fun x H3 hy => ?_⟩
                obtain ⟨T, x', y', rfl, hT, rfl, e1, e2⟩ := hy
                have f1 := e1 _ qa
                have f2 := e2 _ qb
                rw [g1] at f1
                rw [g3] at f2
                cases f1
                cases f2
                exact ⟨_, Post.alloc s2 o hT, .tup upd_same (.cons ((g2.mono s1).mono (same_new (same_none s2 hT))) (.cons ((g4.mono s1).mono (same_new (same_none s2 hT))) .nil))⟩
              · rcases zipD_end _ _ _ hi with h | h
                · exact ⟨_, _, sql_inj (s2 _ _ (s1 _ _ ha)), sql_inj (s2 _ _ (s1 _ _ hb)), .inl (by rw [ra.length]; exact h)⟩
                · exact ⟨_, _, sql_inj (s2 _ _ (s1 _ _ ha)), sql_inj (s2 _ _ (s1 _ _ hb)), .inr (by rw [rb.length]; exact h)⟩
    · cases e2
      cases r1 with
      | cons ra r1 =>
        cases r1 with
        | cons rb r1 =>
          cases r1
          cases ra with
          | tup ha0 ra =>
            cases rb with
            | tup hb0 rb =>
              have ha := ha0.sq
              have hb := hb0.sq
              refine ⟨_, _, _, _, rfl, .inr ⟨same_sqt p1.le ha, same_sqt p1.le hb, k F1 H1 _ p1 fun F2 H2 ω2 s1 s2 o i => ⟨fun d hd => ?_, fun hi => ?_⟩⟩⟩
              · obtain ⟨x, y, h1, h2, rfl⟩ := zipD_get _ _ _ _ hd
                obtain ⟨u, g1, g2⟩ := ra.get h1
                obtain ⟨t, g3, g4⟩ := rb.get h2
                have qa := same_sqt s2 (same_sqt s1 ha)
                have qb := same_sqt s2 (same_sqt s1 hb)
                refine ⟨⟨_, _, u, t, qa, qb, g1, g3⟩, fun x H3 hy => ?_⟩
                obtain ⟨T, x', y', rfl, hT, rfl, e1, e2⟩ := hy
                have f1 := e1 _ qa
                have f2 := e2 _ qb
                rw [g1] at f1
                rw [g3] at f2
                cases f1
                cases f2
                exact ⟨_, Post.alloc s2 o hT, .tup upd_same (.cons ((g2.mono s1).mono (same_new (same_none s2 hT))) (.cons ((g4.mono s1).mono (same_new (same_none s2 hT))) .nil))⟩
              · rcases zipD_end _ _ _ hi with h | h
                · exact ⟨_, _, same_sqt s2 (same_sqt s1 ha), same_sqt s2 (same_sqt s1 hb), .inl (by rw [ra.length]; exact h)⟩
                · exact ⟨_, _, same_sqt s2 (same_sqt s1 ha), same_sqt s2 (same_sqt s1 hb), .inr (by rw [rb.length]; exact h)⟩
    · cases e2
end
end FL
end
section
/-! FL: enumerate of lists and tuples; tuple * int. -/
namespace FL
open PySem PySem.Spec PyProof.Rows L2
open AutoSeq1 (wpAny_loadPart')

set_option maxHeartbeats 1000000 in
theorem meets_enumerate_newB1 {v : Value} {o : Obj} {H : Heap → Prop} (B : Begins v o H) :
    Meets (Builtin.«enumerate.__new__» ⟨[.type "enumerate", v], []⟩) (fun _ R s => H s.heap ∧
      R (.ok (.ret (.ref (s.heap.push o).objs.size))) { s with heap := (s.heap.push o).push { cls := .type "enumerate", data := .fields #[.none, .bool false, .ref s.heap.objs.size, rawInt 0, .none, .none] } }) :=
  .of_wp fun prog w A R s h => by
    obtain ⟨hp, g, d, tk, os⟩ := s; obtain ⟨h1, h⟩ := h
    have hsub := sub_enumerate
    have q1 : ∀ {A' : Around} {E : Value → Shared → Prop} {Q : Value → Shared → Prop}, Q (.ref hp.objs.size) ⟨hp.push o, g, d, tk, os⟩ → wpAny (model prog w) A' (pyIter v) Q E ⟨hp, g, d, tk, os⟩ :=
      fun q => B.iter prog w _ _ ⟨hp, g, d, tk, os⟩ _ h1 q
    wp_walk using q1
    refine wpAny_stack_any fun st => wpAny_pure ?_
    split
    · rename_i c _ _ _ _ _
      cases (c == Value.type "enumerate")
      · wp_walk using q1
        exact ⟨_, rfl, h⟩
      · wp_walk using q1
        exact ⟨_, rfl, h⟩
    · wp_walk using q1
      exact ⟨_, rfl, h⟩
section
variable {prog : Program} {w : World} {A : Around} {E : Value → Shared → Prop} {s : Shared}
theorem enum_begins1 {v : Value} {o : Obj} {H : Heap → Prop} {Q : Value → Shared → Prop} (B : Begins v o H) (h1 : H s.heap)
    (h : ∀ h', IsEnum h' (s.heap.objs.size + 1) s.heap.objs.size 0 .none → h'.get? s.heap.objs.size = some o → h'.objs.size = s.heap.objs.size + 2 →
      (∀ b o, s.heap.get? b = some o → h'.get? b = some o) → Q (.ref (s.heap.objs.size + 1)) { s with heap := h' }) :
    wpAny (model prog w) A (call (.type "enumerate") [v]) Q E s := by
  refine callType_new F.called_enumerate (by decide) (F.typeCall_enumerate_1 _) (F.newCall_enumerate_1 _) (fun obj => F.args_object_init_2 obj _) F.entry_enumerate_new
    (meets_enumerate_newB1 B) ⟨h1, ?_⟩
  have hz : (s.heap.push o).objs.size = s.heap.objs.size + 1 := Heap.size_push ..
  show _ ∧ _
  rw [hz]
  have he : IsEnum ((s.heap.push o).push { cls := .type "enumerate", data := .fields #[.none, .bool false, .ref s.heap.objs.size, rawInt 0, .none, .none] }) (s.heap.objs.size + 1) s.heap.objs.size 0 .none := by
    have := Heap.get?_push_size (s.heap.push o) (o := { cls := .type "enumerate", data := .fields #[.none, .bool false, .ref s.heap.objs.size, rawInt 0, .none, .none] }) rfl
    rw [hz] at this; exact this
  refine ⟨⟨_, he, rfl⟩, h _ he (Heap.get?_push_of_some _ (Heap.get?_push_size _ B.free)) (by rw [Heap.size_push, hz]) fun b o x => Heap.get?_push_of_some _ (Heap.get?_push_of_some _ x)⟩
end
/-- the tuple at a, each item in a new pair -/
def IteT (K : PySem.W.Frag) (a : Addr) : It :=
  ⟨fun i H => ∃ (xs : List V) (x : V), SqT K H a xs ∧ xs[i]? = some x, fun i H v H' => ∃ T x, v = .ref T ∧ H T = none ∧ H' = upd H T (.tup [.int (i : Nat), x]) ∧ ∀ xs, SqT K H a xs → xs[i]? = some x, fun i H => ∃ xs : List V, SqT K H a xs ∧ xs.length ≤ i⟩
theorem turn_enumT {P : Program} {w : World} {K : PySem.W.Frag} {elts : List Expr} {kk : Nat} {tpos : Pos} (a e it : Addr) :
    Turn P w K (.Tuple elts kk tpos) (IteT K a) [e, it] e (fun i h => (∃ old, IsEnum h e it ((i : Nat) : Int) old) ∧ h.IsTupleIter it a i ∧ e ≠ it) where
  mem := by simp
  obj := fun i h st b hb => by
    obtain ⟨⟨old, he⟩, ⟨o, ho, hc, hd⟩, _⟩ := st
    have e' : b = e ∨ b = it := by simpa using hb
    rcases e' with z | z
    · rw [z]; exact ⟨_, he, fun v q => nomatch q⟩
    · rw [z]; exact ⟨o, ho, fun v q => by rw [hd] at q; cases q⟩
  keep := fun i h h' st k => let ⟨⟨old, he⟩, hi, hne⟩ := st; ⟨⟨old, k e (by simp) _ he⟩, hi.at fun o q => k it (by simp) o q, hne⟩
  item := by
    intro X hP hw hK hc i pins s σ H E I hf st hg
    subst hP hw hK
    obtain ⟨⟨old, he⟩, hit, hne⟩ := st
    obtain ⟨xs, x, hq, hx⟩ := hg
    obtain ⟨its, rv, p, hz⟩ := I.tuple hq
    obtain ⟨u, hu, ru⟩ := rv.get hx
    have hel : e < s.heap.objs.size := Heap.lt_size he
    have hil : it < s.heap.objs.size := by obtain ⟨_, q, _⟩ := hit; exact Heap.lt_size q
    have pt : s.heap.IsTuple a its.toArray := p
    have nea : a ≠ it := by
      rintro rfl
      obtain ⟨o, h1, h2, _⟩ := hit
      obtain ⟨o', h3, h4, _⟩ := pt
      rw [h1] at h3; cases h3; rw [h2] at h4; injection h4 with z; exact absurd z (by decide)
    have nee : e ≠ a := by
      rintro rfl
      obtain ⟨o', h3, h4, _⟩ := pt
      have h3' := (show s.heap.get? e = some _ from he).symm.trans h3
      have hc := congrArg Obj.cls (Option.some.inj h3')
      rw [h4] at hc
      have hc' : Value.type "enumerate" = Value.type "tuple" := hc
      injection hc' with z
      exact absurd z (by decide)
    have hlt : i < its.toArray.size := by
      have := (List.getElem?_eq_some_iff.mp hu).1
      simpa using this
    refine wpAny_pyNext_enum_itemD (Draws.tuple (A := X.A.in1) (prog := X.prog) (w := X.w) (I.ok.hd hc) it a nea its.toArray) he ⟨hit, pt⟩ hlt hne (by simp [hne, nee]) fun u' h' tk hu' ho hst' hT hsz hk => ?_
    have eu : u' = u := by
      have h1 : its.toArray[i]? = some u' := hu'
      rw [List.getElem?_toArray, hu] at h1
      exact (Option.some.inj h1).symm
    subst eu
    refine ⟨_, rfl, wpAny_letOwnedTupleGo_enum (s := { s with heap := h', toks := tk + 1 }) ho fun h'' he' sb => ?_⟩
    have hT2 : h''.get? s.heap.objs.size = some { cls := .type "tuple", data := .seq #[.int i tk, u'] } := (sb.2 _ (Nat.ne_of_gt hel)).trans hT
    have new : ObjOk X.prog X.w (upd H s.heap.objs.size (.tup [.int (i : Nat), x])) h'' s.heap.objs.size (.tup [.int (i : Nat), x]) :=
      ⟨by show 2 ≤ sizeLine; decide, [.int i tk, u'], .cons ⟨_, rfl⟩ (.cons ru .nil), ⟨_, hT2, rfl, _, rfl⟩⟩
    have I1 : Inv X pins σ (upd H s.heap.objs.size (.tup [.int (i : Nat), x])) { s with heap := h'', toks := tk + 1 } :=
      I.turnedNew (ch := [e, it]) (fun b ob hb q => (sb.2 b (fun z => hb (by simp [z]))).trans (hk b ob (fun z => hb (by simp [z])) (fun z => hb (by simp [z])) q)) hf (Nat.le_refl _) new
    refine ⟨.ref s.heap.objs.size, _, I1, rfl, ⟨_, x, rfl, I.hok.fresh (Nat.le_refl _), rfl, fun ys hy => by rw [I.tuple_inj hy hq]; exact hx⟩, ⟨⟨u', ?_⟩, hst'.1.at fun o q => (sb.2 it (Ne.symm hne)).trans q, hne⟩, fun b hb => ?_⟩
    · have e1 : ((i + 1 : Nat) : Int) = (i : Int) + 1 := by omega
      rw [e1]; exact he'
    · have hb' : b < s.heap.objs.size := by
        have e' : b = e ∨ b = it := by simpa using hb
        rcases e' with z | z
        · rw [z]; exact hel
        · rw [z]; exact hil
      rw [upd_ne (Nat.ne_of_lt hb')]
      exact (hf b hb).1
  done := by
    intro X hP hw hK hc i pins s σ H E I hf st hg
    subst hP hw hK
    obtain ⟨⟨old, he⟩, hit, hne⟩ := st
    obtain ⟨xs, hq, hx⟩ := hg
    obtain ⟨its, rv, p, hz⟩ := I.tuple hq
    obtain ⟨f0, f1, f2, f3, f4, f5⟩ := hf it (by simp)
    have hl := rv.length
    have pt : s.heap.IsTuple a its.toArray := p
    unfold pyNext
    have hT : s.TypeIs (.ref e) "enumerate" := ⟨_, he, rfl⟩
    refine wpAny_bind (wpAny_attempt (wpAny_callSpecial?_slot (name := Str.ofString "__next__") hT F.slot_enumerate_next
      (wpAny_call_entry F.slot_enumerate_next hT F.entry_enumerate_next ?_ (F.args_enumerate_next_1 _))))
    show wpAny _ _ (field (.ref e) 2 >>= _) _ _ _
    refine wpAny_bind (wpAny_field he rfl (x := .ref it) rfl ?_)
    refine wpAny_bind (wpAny_nextOf_tuple_end (I.ok.hd hc) hit pt (by simp; omega) fun h' x eb hx' => ?_)
    obtain ⟨o, ho, hc'⟩ := hx'
    refine wpAny_bind (wpAny_isInstance (T := "StopIteration") (b := true) ⟨o, ho, hc'⟩ isSubtype_stop ?_)
    exact wpAny_pure ⟨rfl, I.turned (t' := s.toks) (fun b o hb q => eb b o hb q) f0 f1 f3 f4 f5⟩
  self := fun A i s Q E st h => let ⟨⟨_, he⟩, _⟩ := st; wpAny_pyIter_enum he h
def iEnumA (K : PySem.W.Frag) (ta : TA) : TI := fun σ H R => ta σ H fun vs H1 => ∃ a xs, vs = [.ref a] ∧ ((SqL K H1 a xs ∧ R (Ite K a) H1) ∨ (SqT K H1 a xs ∧ R (IteT K a) H1))
section
variable {X : Cx} {e a : Expr} {ta : TA} {p pos tpos : Pos} {elts : List Expr} {kk : Nat} {f : EF}
theorem pi_enumA (hg : Gl X "enumerate") (hm : X.mg "enumerate" = none) (ha : PA X [e] ta) (hs : starEach [e] X.env = [(false, eval e X.env)] := by rfl) :
    PI X (.Tuple elts kk tpos) (.Call (.Name "enumerate" p) [e] [] pos) (iEnumA X.K ta) := by
  refine ⟨fun pins s σ H R I h => ?_⟩
  refine Call_ (ld_blt I hg hm boot_enumerate (PyProof.Rows.callWith_type1 (thn (ha.run pos pins s σ H _ I h) fun us s1 ⟨vs, H1, I1, r1, q1⟩ => ?_) hs rfl))
  obtain ⟨a, xs, ex, q⟩ := q1
  subst ex
  cases r1 with
  | cons r rr =>
    cases rr
    cases r
    rcases q with ⟨hq, q⟩ | ⟨hq, q⟩
    · obtain ⟨its, rv, p', hz⟩ := I1.list hq
      refine call_enumerate_list p'.isList fun h' he hit hsz hk => wpAny_pyIter_enum he ?_
      have I2 : Inv X pins σ H1 { s1 with heap := h' } := I1.kept (t' := s1.toks) hk
      refine ⟨s1.heap.objs.size + 1, [s1.heap.objs.size + 1, s1.heap.objs.size], _, _, H1, rfl, I2, turn_enum a (s1.heap.objs.size + 1) s1.heap.objs.size, ⟨⟨.none, he⟩, hit, Nat.succ_ne_self _⟩, fun b hb => ?_, q⟩
      have e' : b = s1.heap.objs.size + 1 ∨ b = s1.heap.objs.size := by simpa using hb
      have hle : s1.heap.objs.size ≤ b := by
        rcases e' with z | z
        · rw [z]; exact Nat.le_add_right _ _
        · rw [z]; exact Nat.le_refl _
      exact I1.fpOk hle (I1.hok.fresh hle)
    · obtain ⟨its, rv, p', hz⟩ := I1.tuple hq
      refine enum_begins1 (begins_tuple a its.toArray) (show s1.heap.IsTuple a its.toArray from p') fun h' he hit hsz hk => wpAny_pyIter_enum he ?_
      have I2 : Inv X pins σ H1 { s1 with heap := h' } := I1.kept (t' := s1.toks) hk
      refine ⟨s1.heap.objs.size + 1, [s1.heap.objs.size + 1, s1.heap.objs.size], _, _, H1, rfl, I2, turn_enumT a (s1.heap.objs.size + 1) s1.heap.objs.size, ⟨⟨.none, he⟩, ⟨_, hit, rfl, rfl⟩, Nat.succ_ne_self _⟩, fun b hb => ?_, q⟩
      have e' : b = s1.heap.objs.size + 1 ∨ b = s1.heap.objs.size := by simpa using hb
      have hle : s1.heap.objs.size ≤ b := by
        rcases e' with z | z
        · rw [z]; exact Nat.le_add_right _ _
        · rw [z]; exact Nat.le_refl _
      exact I1.fpOk hle (I1.hok.fresh hle)
def enumD (k : Nat) : List D → List D
  | [] => []
  | d :: ds => .tup [.int (k : Nat), d] :: enumD (k + 1) ds
theorem enumD_length : ∀ (ds : List D) (k : Nat), (enumD k ds).length = ds.length
  | [], _ => rfl
  | _ :: ds, k => congrArg (· + 1) (enumD_length ds (k + 1))
theorem enumD_get : ∀ (ds : List D) (k i : Nat) (d : D), (enumD k ds)[i]? = some d → ∃ x, ds[i]? = some x ∧ d = .tup [.int ((k + i : Nat) : Int), x]
  | [], k, i, d, h => by simp [enumD] at h
  | x :: ds, k, 0, d, h => by simp [enumD] at h; exact ⟨x, rfl, h.symm⟩
  | x :: ds, k, i + 1, d, h => by
    obtain ⟨y, h1, h2⟩ := enumD_get ds (k + 1) i d (by simpa [enumD] using h)
    exact ⟨y, by simpa using h1, by rw [h2, Nat.add_right_comm, Nat.add_assoc]⟩
def itEn (f : EF) : AF := fun ρ => bnd (f ρ) fun d => opt ((seqD d).map (enumD 0))
def onlyO (f : EF) : AF := fun ρ => bnd (f ρ) fun x => ret [x]
theorem ae_one (ha : PE X a (tE X.K f)) (hs : starEach [a] X.env = (false, eval a X.env) :: starEach [] X.env := by rfl) : PA X [a] (tAE X.K (onlyO f)) :=
  pa_weak (pa_cons ha pa_nil hs) fun σ H Q ⟨c, F, ρ, ω, d, ω', w, e, q⟩ => by
    obtain ⟨x, ω1, e1, e⟩ := bnd_some e
    obtain ⟨rfl, rfl⟩ := ret_some e
    exact ⟨c, F, ρ, ω, x, _, w, e1, fun F1 H1 v p1 r1 => q F1 H1 _ p1 (.cons r1 .nil)⟩
theorem i_enum (hm : X.mg "enumerate" = none) (ha : PE X a (tE X.K f)) (hg : Gl X "enumerate" := by rfl) (na : starEach [a] X.env = (false, eval a X.env) :: starEach [] X.env := by rfl) (hs : starEach [a] X.env = [(false, eval a X.env)] := by rfl) :
    PI X (.Tuple elts kk tpos) (.Call (.Name "enumerate" p) [a] [] pos) (tI X.K (itEn f)) :=
  pi_weak (pi_enumA hg hm (ae_one ha na) hs) fun σ H R ⟨c, F, ρ, ω, d, ω', w, e, k⟩ => by
    obtain ⟨x, ω1, e1, e⟩ := bnd_some e
    obtain ⟨e2, rfl⟩ := opt_some e
    rw [Option.map_eq_some_iff] at e2
    obtain ⟨ds, e3, rfl⟩ := e2
    refine ⟨c, F, ρ, ω, [x], ω', w, ?_, fun F1 H1 vs p1 r1 => ?_⟩
    · unfold onlyO bnd; rw [e1]; rfl
    · cases r1 with
      | cons r1 rr =>
        cases rr
        obtain ⟨a, vs, rfl, rr, h | h⟩ := r1.seq e3
        · refine ⟨a, vs, rfl, .inl ⟨sql_inj (p1.le _ _ h), k F1 H1 _ p1 fun F2 H2 ω2 s1 s2 o i => ⟨fun d hd => ?_, fun hi => ?_⟩⟩⟩
          · obtain ⟨y, h1, rfl⟩ := enumD_get ds 0 i d hd
            obtain ⟨u, g1, g2⟩ := rr.get h1
            have hq := sql_inj (K := X.K) (s2 _ _ (s1 _ _ h))
            refine ⟨⟨_, u, hq, g1⟩, fun x H3 hy => ?_⟩
            obtain ⟨T, x', rfl, hT, rfl, e1⟩ := hy
            have f1 := e1 _ hq
            rw [g1] at f1
            cases f1
            refine ⟨_, Post.alloc s2 o hT, .tup upd_same (.cons ?_ (.cons ((g2.mono s1).mono (same_new (same_none s2 hT))) .nil))⟩
            rw [Nat.zero_add]; exact .int _
          · rw [enumD_length] at hi
            exact ⟨_, sql_inj (s2 _ _ (s1 _ _ h)), by rw [rr.length]; exact hi⟩
        · refine ⟨a, vs, rfl, .inr ⟨same_sqt p1.le h, k F1 H1 _ p1 fun F2 H2 ω2 s1 s2 o i => ⟨fun d hd => ?_, fun hi => ?_⟩⟩⟩
          · obtain ⟨y, h1, rfl⟩ := enumD_get ds 0 i d hd
            obtain ⟨u, g1, g2⟩ := rr.get h1
            have hq := same_sqt s2 (same_sqt s1 h)
            refine ⟨⟨_, u, hq, g1⟩, fun x H3 hy => ?_⟩
            obtain ⟨T, x', rfl, hT, rfl, e1⟩ := hy
            have f1 := e1 _ hq
            rw [g1] at f1
            cases f1
            refine ⟨_, Post.alloc s2 o hT, .tup upd_same (.cons ?_ (.cons ((g2.mono s1).mono (same_new (same_none s2 hT))) .nil))⟩
            rw [Nat.zero_add]; exact .int _
          · rw [enumD_length] at hi
            exact ⟨_, same_sqt s2 (same_sqt s1 h), by rw [rr.length]; exact hi⟩
end
end FL
end
section
/-! FL: draws, the law's end. -/
namespace FL
open PySem PySem.Spec PyProof.Rows L2

/-! ### draws -/
def dropZ : List Int → List Int
  | [] => []
  | x :: r => if x = 0 then dropZ r else x :: r
def drawF (ω : Ora) (m : Int) : Int × Ora := match dropZ ω.1 with
  | v :: r => (v % m, (v / m :: r, ω.2))
  | [] => ((ω.2 * 48271 + 12345) % 2147483647 / 64 % m, ([], (ω.2 * 48271 + 12345) % 2147483647))
def drawM : List D → M D := fun ds => match ds with
  | [.tok, .int m] => fun ω => if (decide (0 < m) && decide (m.natAbs < 2 ^ 8000)) = true then some (.int (drawF ω m).1, (drawF ω m).2) else none
  | _ => fun _ => none
theorem drawM_some {ds : List D} {ω ω' : Ora} {d : D} (h : drawM ds ω = some (d, ω')) : ∃ m, ds = [.tok, .int m] ∧ 0 < m ∧ m.natAbs < 2 ^ 8000 ∧ d = .int (drawF ω m).1 ∧ ω' = (drawF ω m).2 := by
  unfold drawM at h
  split at h
  · split at h
    · rename_i m hm
      simp only [Bool.and_eq_true, decide_eq_true_eq] at hm
      cases h
      exact ⟨m, rfl, hm.1, hm.2, rfl, rfl⟩
    · cases h
  · cases h
theorem drawF_range (ω : Ora) {m : Int} (h : 0 < m) : 0 ≤ (drawF ω m).1 ∧ (drawF ω m).1 < m := by
  unfold drawF
  split
  · exact ⟨Int.emod_nonneg _ (by omega), Int.emod_lt_of_pos _ h⟩
  · exact ⟨Int.emod_nonneg _ (by omega), Int.emod_lt_of_pos _ h⟩

/-! ### total correctness over all draws -/
def Tr {α : Type} (m : M α) (P : α → Prop) : Prop := ∀ ω, ∃ a ω', m ω = some (a, ω') ∧ P a
theorem Tr.ret {α : Type} {P : α → Prop} {a : α} (h : P a) : Tr (FL.ret a) P := fun ω => ⟨a, ω, rfl, h⟩
theorem Tr.opt {α : Type} {P : α → Prop} {o : Option α} {a : α} (e : o = some a) (h : P a) : Tr (FL.opt o) P := fun ω => ⟨a, ω, by rw [e]; rfl, h⟩
theorem Tr.bnd {α β : Type} {P : β → Prop} {m : M α} {k : α → M β} {R : α → Prop} (h : Tr m R) (h2 : ∀ a, R a → Tr (k a) P) : Tr (FL.bnd m k) P := fun ω => by
  obtain ⟨a, ω1, e1, r⟩ := h ω
  obtain ⟨b, ω2, e2, p⟩ := h2 a r ω1
  exact ⟨b, ω2, by unfold FL.bnd; rw [e1]; exact e2, p⟩
theorem Tr.mono {α : Type} {m : M α} {P R : α → Prop} (h : Tr m P) (i : ∀ a, P a → R a) : Tr m R := fun ω => let ⟨a, ω', e, p⟩ := h ω; ⟨a, ω', e, i a p⟩
theorem Tr.draw {m : Int} {P : D → Prop} (h0 : 0 < m) (h1 : m.natAbs < 2 ^ 8000) (h : ∀ r : Int, 0 ≤ r → r < m → P (.int r)) : Tr (drawM [.tok, .int m]) P := fun ω => by
  refine ⟨_, (drawF ω m).2, ?_, h (drawF ω m).1 (drawF_range ω h0).1 (drawF_range ω h0).2⟩
  show (if _ then _ else _) = _
  rw [if_pos (by simp [h0, h1])]
theorem Tr.of_eq {α : Type} {m m' : M α} {P : α → Prop} (e : ∀ ω, m ω = m' ω) (h : Tr m' P) : Tr m P := fun ω => by rw [e ω]; exact h ω

theorem tab_same {H H' : Hp} {P : Addr} (h : Same H H') (t : GxR.TabG H P) : GxR.TabG H' P := let ⟨ps, e, k⟩ := t; ⟨ps, h _ _ e, k⟩
/-! ### the law -/
def spState (K : PySem.W.Frag) : Sp := fun vs H Q _ => ∃ (a : Addr) (ns : List Int), vs = [.ref a] ∧ SqL K H a (ns.map V.int) ∧ ns.length ≤ 63 ∧
  ∀ H' s c (ω : Ora), s ≠ c → Same H H' → H' s = some (.lst [.ref c, .int ω.2]) → H' c = some (.lst (ω.1.map V.int)) → Q (.ref s) H'
def spLaw (K : PySem.W.Frag) : Sp := fun vs H Q _ => ∃ (a : Addr) (ns : List Int), vs = [.ref a] ∧ SqL K H a (ns.map V.int) ∧ ns.length ≤ 63 ∧ (∀ P, TblK K P → GxR.TabG H P) ∧ ∀ H', Q (.bl true) H'
def isTrue' : Out → Prop
  | .rt false (.bl true) => True
  | _ => False
theorem law_run {K : PySem.W.Frag} {s : SF} {n : Nat} (hs : Tr (s (.un :: .d .tok :: List.replicate n .un)) isTrue') {v0 : Option V} {rest : L2.St} (hr : rest.length = n) {a c : Addr} {ω : Ora} {H : Hp} {Q : VK} {nx : L2.St → Hp → Prop} (hne : a ≠ c) (ha : H a = some (.lst [.ref c, .int ω.2])) (hc : H c = some (.lst (ω.1.map V.int)))
    (ht : ∀ P, TblK K P → GxR.TabG H P) (hq : ∀ H', Q (.bl true) H') : tS K s { nx := nx, rt := Q } (v0 :: some (.ref a) :: rest) H := by
  obtain ⟨o, ω', e, ho⟩ := hs ω
  refine ⟨⟨⟨some (a, c), TblK K⟩, fun _ => none, fun _ => none⟩, fun _ => none, _, ω, o, ω', ⟨⟨.refl _, fun _ _ => rfl, (fun _ _ z => nomatch z), (fun _ _ z => nomatch z), fun p hp => ?_, fun P hP => ⟨rfl, ht P hP⟩⟩, ?_, fun i x hx => ?_, fun i x hx => ?_, fun i j x y _ hx _ => ?_, fun _ h => h, .no fun i n x hx => ?_⟩, e, ?_⟩
  · cases hp
    exact ⟨hne, rfl, rfl, ha, hc⟩
  · simp [hr]
  · cases i with
    | zero => cases hx
    | succ i =>
      cases i with
      | zero => cases hx; exact ⟨_, rfl, .tok rfl⟩
      | succ i =>
        have h1 : nth (List.replicate n SV.un) i = .d x := hx
        rw [nth_rep] at h1
        cases h1
  · cases i with
    | zero => cases hx
    | succ i =>
      cases i with
      | zero => cases hx
      | succ i =>
        have h1 : nth (List.replicate n SV.un) i = .o x := hx
        rw [nth_rep] at h1
        cases h1
  · cases i with
    | zero => cases hx
    | succ i =>
      cases i with
      | zero => cases hx
      | succ i =>
        have h1 : nth (List.replicate n SV.un) i = .o x := hx
        rw [nth_rep] at h1
        cases h1
  · cases i with
    | zero => cases hx
    | succ i =>
      cases i with
      | zero => cases hx
      | succ i =>
        have h1 : nth (List.replicate _ SV.un) i = .t n x := hx
        rw [nth_rep] at h1
        cases h1
  · cases o with
    | rt b d =>
      cases b with
      | false =>
        cases d with
        | bl k =>
          cases k with
          | true => intro F' H' v p r; cases r; exact hq H'
          | false => exact ho.elim
        | _ => exact ho.elim
      | true => exact ho.elim
    | _ => exact ho.elim
/-! the readings of the two defs of every law -/
section
variable {K : PySem.W.Frag} {H : Hp}
theorem dropZ_cons0 (r : List Int) : dropZ (0 :: r) = dropZ r := by simp [dropZ]
theorem dropZ_ne {x : Int} (r : List Int) (h : x ≠ 0) : dropZ (x :: r) = x :: r := by simp [dropZ, h]
end
end FL
end
section
/-! FL: in, pairs of names, unpacking. -/
namespace FL
open PySem PySem.Spec PyProof.Rows L2

theorem hu65 {k : Nat} {A : Around} (r : Room k A) : A.units + 65 < cLine := by have := r.un; omega
abbrev rInA (K : PySem.W.Frag) : R2 := fun x y H Q => rInD K x y H Q ∨ rIn K false x y H Q
abbrev rNotInA (K : PySem.W.Frag) : R2 := fun x y H Q => rNotInD K x y H Q ∨ rIn K true x y H Q
theorem op_inA {X : Cx} (hu : X.A.units + 65 < cLine) : OpR X (compareOp .In) (rInA X.K) := (op_inD hu).or op_in_seq
theorem op_notInA {X : Cx} (hu : X.A.units + 65 < cLine) : OpR X (compareOp .NotIn) (rNotInA X.K) := (op_notInD hu).or op_notIn_seq
def dInA (a b : D) : Option D := match b with
  | .tup _ => dInT a b
  | _ => dIn a b
def dNotInA (a b : D) : Option D := match b with
  | .tup _ => dNotInT a b
  | _ => dNotIn a b
theorem inA_pure {K : PySem.W.Frag} : Pure2 K (rInA K) dInA := by
  intro q F H ω x y a b d Q hs ho hx hy e k
  unfold dInA at e
  split at e
  · exact .inr (inT_pure q F H ω x y a _ d Q hs ho hx hy e k)
  · exact .inl (in_pure q F H ω x y a b d Q hs ho hx hy e k)
theorem notInA_pure {K : PySem.W.Frag} : Pure2 K (rNotInA K) dNotInA := by
  intro q F H ω x y a b d Q hs ho hx hy e k
  unfold dNotInA at e
  split at e
  · exact .inr (notInT_pure q F H ω x y a _ d Q hs ho hx hy e k)
  · exact .inl (notIn_pure q F H ω x y a b d Q hs ho hx hy e k)
def dAdd0 : D → D → Option D
  | .int i, .int j => some (.int (i + j))
  | _, _ => none
theorem add0_pure {K : PySem.W.Frag} : Pure2 K (rI0 fun i j => .int (i + j)) dAdd0 := by
  intro q F H ω x y a b d Q hs ho hx hy e k
  cases a <;> cases b <;> simp only [dAdd0, reduceCtorEq] at e
  cases e
  cases hx.int
  cases hy.int
  exact ⟨_, _, rfl, rfl, k F H _ (.mk0 hs ho) (.int _)⟩
/-! lengths that targets take -/
theorem gsLenN {g : GFs} {b : GF} {n : Nat} (h : ∀ ds ρ ρ', g ds ρ = some ρ' → ds.length = n) : ∀ ds ρ ρ', gsC b g ds ρ = some ρ' → ds.length = n + 1 := fun ds ρ ρ' e => by
  cases ds with
  | nil => cases e
  | cons d ds =>
    simp only [gsC, Option.bind_eq_some_iff] at e
    obtain ⟨ρ1, _, e2⟩ := e
    rw [List.length_cons, h ds ρ1 ρ' e2]
theorem gsLen0 : ∀ ds ρ ρ', gsN ds ρ = some ρ' → ds.length = 0 := fun ds ρ ρ' e => by
  cases ds with
  | nil => rfl
  | cons d ds => cases e
theorem gsLen1 {a : GF} : ∀ ds ρ ρ', gsC a gsN ds ρ = some ρ' → ds.length = 1 := gsLenN gsLen0
theorem gsLen2 {a b : GF} : ∀ ds ρ ρ', gsC a (gsC b gsN) ds ρ = some ρ' → ds.length = 2 := gsLenN gsLen1
theorem gsLen3 {a b c : GF} : ∀ ds ρ ρ', gsC a (gsC b (gsC c gsN)) ds ρ = some ρ' → ds.length = 3 := gsLenN gsLen2
theorem gsLen4 {a b c d : GF} : ∀ ds ρ ρ', gsC a (gsC b (gsC c (gsC d gsN))) ds ρ = some ρ' → ds.length = 4 := gsLenN gsLen3
section
variable {X : Cx} {e tg : Expr} {f g : EF} {is : List Nat} {b : GF} {pos : Pos}
/-- target = e, a tuple unpacked -/
def asgS (f : EF) (b : GF) : SF := fun ρ => bnd (f ρ) fun d => bnd (opt (b d ρ)) fun ρ' => ret (.nx ρ')
theorem s_asg (he : PE X e (tE X.K f)) (hg : PG X tg (tG X.K is b)) (hs : swapsWithSole [tg] e pos.line X.env = pure false := by rfl) (hw : swappedStores [tg] e X.env = pure none := by rfl)
    (h1 : (assignEach [tg] X.env).map (·.2) = [assign tg X.env] := by rfl) : PS X (.Assign [tg] e pos) (tS X.K (asgS f b)) := ps_weak (ps_asg he hg hs hw h1) fun D σ H ⟨c, F, ρ, ω, o, ω', w, e, k⟩ => by
  obtain ⟨d, ω1, e1, e⟩ := bnd_some e
  obtain ⟨ρ', ω2, e2, e⟩ := bnd_some e
  obtain ⟨rfl, rfl⟩ := ret_some e
  obtain ⟨e3, rfl⟩ := opt_some e2
  exact ⟨c, F, ρ, ω, d, _, w, e1, fun F1 H1 v p1 r1 => ⟨c, F1, ρ, _, d, ρ', w.ext p1, r1, e3, fun σ' w' _ _ => k F1 H1 σ' w'⟩⟩
/-- a, b = e1, e2: plain local names -/
def parS (i j : Nat) (f g : EF) : SF := fun ρ => bnd (f ρ) fun x => bnd (g ρ) fun y => ret (.nx (sset (sset ρ i (.d x)) j (.d y)))
variable {x y : Str} {e1 e2 : Expr} {px py pt pt2 : Pos} {kt k2 : Nat}
theorem s_par (i j : Nat) (hN : X.N.Nodup) (hij : i ≠ j) (h1 : PE X e1 (tE X.K f)) (h2 : PE X e2 (tE X.K g)) (hi : X.N[i]? = some x := by rfl) (hj : X.N[j]? = some y := by rfl)
    (hx : X.env.scope.names.lookup x = some .local := by rfl) (hy : X.env.scope.names.lookup y = some .local := by rfl) (hc : X.calm = true := by rfl)
    (hw : swappedStores [.Tuple [.Name x px, .Name y py] kt pt] (.Tuple [e1, e2] k2 pt2) X.env = pure (some [x, y]) := by rfl)
    (hs : swapsWithSole [.Tuple [.Name x px, .Name y py] kt pt] (.Tuple [e1, e2] k2 pt2) pos.line X.env = pure false := by rfl)
    (na : starEach [e1, e2] X.env = (false, eval e1 X.env) :: starEach [e2] X.env := by rfl) (nb : starEach [e2] X.env = (false, eval e2 X.env) :: starEach [] X.env := by rfl) :
    PS X (.Assign [.Tuple [.Name x px, .Name y py] kt pt] (.Tuple [e1, e2] k2 pt2) pos) (tS X.K (parS i j f g)) :=
  ps_weak (ps_par hc hN hi hj hij hx hy (pa_cons h1 (pa_cons h2 pa_nil nb) na) hw hs) fun D σ H ⟨c, F, ρ, ω, o, ω', w, e, k⟩ => by
    obtain ⟨x1, ω1, g1, e⟩ := bnd_some e
    obtain ⟨y1, ω2, g2, e⟩ := bnd_some e
    obtain ⟨rfl, rfl⟩ := ret_some e
    exact ⟨c, F, ρ, ω, x1, ω1, w, g1, fun F1 H1 v p1 r1 => ⟨c, F1, ρ, ω1, y1, _, w.ext p1, g2, fun F2 H2 u p2 r2 => ⟨v, u, rfl, k F2 H2 _ ((((w.ext p1).ext p2).set_d (r1.mono p2.le0) i).set_d r2 j)⟩⟩⟩
/-- both new lists -/
def parO (i j : Nat) (f g : EF) : SF := fun ρ => bnd (f ρ) fun x => bnd (g ρ) fun y => ret (.nx (sset (sset ρ i (.o x)) j (.o y)))
theorem s_parO (i j : Nat) (hN : X.N.Nodup) (hij : i ≠ j) (h1 : PE X e1 (tF X.K f)) (h2 : PE X e2 (tF X.K g)) (hi : X.N[i]? = some x := by rfl) (hj : X.N[j]? = some y := by rfl)
    (hx : X.env.scope.names.lookup x = some .local := by rfl) (hy : X.env.scope.names.lookup y = some .local := by rfl) (hc : X.calm = true := by rfl)
    (hw : swappedStores [.Tuple [.Name x px, .Name y py] kt pt] (.Tuple [e1, e2] k2 pt2) X.env = pure (some [x, y]) := by rfl)
    (hs : swapsWithSole [.Tuple [.Name x px, .Name y py] kt pt] (.Tuple [e1, e2] k2 pt2) pos.line X.env = pure false := by rfl)
    (na : starEach [e1, e2] X.env = (false, eval e1 X.env) :: starEach [e2] X.env := by rfl) (nb : starEach [e2] X.env = (false, eval e2 X.env) :: starEach [] X.env := by rfl) :
    PS X (.Assign [.Tuple [.Name x px, .Name y py] kt pt] (.Tuple [e1, e2] k2 pt2) pos) (tS X.K (parO i j f g)) :=
  ps_weak (ps_par hc hN hi hj hij hx hy (pa_cons h1 (pa_cons h2 pa_nil nb) na) hw hs) fun D σ H ⟨c, F, ρ, ω, o, ω', w, e, k⟩ => by
    obtain ⟨x1, ω1, g1, e⟩ := bnd_some e
    obtain ⟨y1, ω2, g2, e⟩ := bnd_some e
    obtain ⟨rfl, rfl⟩ := ret_some e
    refine ⟨c, F, ρ, ω, x1, ω1, w, g1, fun F1 H1 p p1 np fp rp => ⟨c, F1, ρ, ω1, y1, _, w.ext p1, g2, fun F2 H2 t p2 nt ft rt => ⟨.ref p, .ref t, rfl, k F2 H2 _ ?_⟩⟩⟩
    have qp := qfree_none w.post.ora np
    have qt := qfree_none (w.ext p1).post.ora nt
    have w1 := w.ext p1
    have w2 := w1.ext p2
    have hpt : p ≠ t := fun z => by rw [← z] at nt; exact rp.there nt
    have fp2 : F2 p = none := by rw [p2.new p rp.mut]; exact fp
    have op : Own X.K c F2 H2 p x1 := ⟨fp2, w.h0_none np, qp, rp.mono p2.le0 fun o h => p2.kept p o h qp⟩
    have ot : Own X.K c F2 H2 t y1 := ⟨ft, w1.h0_none nt, qt, rt⟩
    have ht2 : H t = none := none_back p1 nt
    refine (w2.set_o op i (fun j' y' _ hy' => ?_) (w.new_o (p1.trans p2) np i x1)).set_o ot j (fun j' y' hj' hy' => ?_) (w.news (p1.trans p2) (fun k n y e => ?_) fun k y q e es => ?_)
    · exact w.fresh_ne np j' y' hy'
    · rw [nth_sset] at hy'
      by_cases hji : j' = i
      · subst hji
        have hl : j' < σ.length := by
          rw [w.len]
          by_cases hl : j' < ρ.length
          · exact hl
          · rw [if_pos rfl, if_neg hl] at hy'; cases hy'
        rw [List.getElem?_set_self hl]
        exact fun z => hpt (V.ref.inj (Option.some.inj (Option.some.inj z)))
      · rw [if_neg hji] at hy'
        rw [List.getElem?_set_ne (Ne.symm hji)]
        exact w1.fresh_ne nt j' y' hy'
    · rw [nth_sset] at e
      by_cases h : k = j
      · rw [if_pos h] at e; split at e <;> cases e
      · rw [if_neg h, nth_sset] at e
        by_cases h' : k = i
        · rw [if_pos h'] at e; split at e <;> cases e
        · rw [if_neg h'] at e
          exact ⟨e, by rw [List.getElem?_set_ne (Ne.symm h), List.getElem?_set_ne (Ne.symm h')]⟩
    · rw [nth_sset] at e
      have hk := (List.getElem?_eq_some_iff.mp es).1
      rw [List.length_set, List.length_set] at hk
      by_cases h : k = j
      · subst h
        rw [List.getElem?_set_self (by rw [List.length_set]; exact hk)] at es
        cases es
        exact .inr ht2
      · rw [if_neg h, nth_sset] at e
        rw [List.getElem?_set_ne (Ne.symm h)] at es ⊢
        by_cases h' : k = i
        · subst h'
          rw [List.getElem?_set_self hk] at es
          cases es
          exact .inr np
        · rw [if_neg h'] at e
          rw [List.getElem?_set_ne (Ne.symm h')] at es ⊢
          exact .inl ⟨e, rfl⟩
end
end FL
end
section
/-! FL: sorted of ints, of rows of ints. -/
namespace FL
open PySem PySem.Spec PyProof.Rows L2

/-! ### the order of rows -/
def leR : List Int → List Int → Bool
  | [], _ => true
  | _ :: _, [] => false
  | x :: xs, y :: ys => if x = y then leR xs ys else decide (x < y)
theorem leR_iff : ∀ xs ys : List Int, leR xs ys = decide (xs ≤ ys)
  | [], ys => by simp [leR]
  | x :: xs, [] => by simp [leR]
  | x :: xs, y :: ys => by
    unfold leR
    rw [leR_iff xs ys]
    by_cases h : x = y
    · subst h; simp [List.cons_le_cons_iff]
    · rw [if_neg h]; simp [List.cons_le_cons_iff, h]
def insR (x : List Int) : List (List Int) → List (List Int)
  | [] => [x]
  | y :: r => if leR x y = true then x :: y :: r else y :: insR x r
def srtR : List (List Int) → List (List Int)
  | [] => []
  | x :: r => insR x (srtR r)
theorem insR_perm (x : List Int) : ∀ l, (insR x l).Perm (x :: l)
  | [] => .refl _
  | y :: r => by
    unfold insR
    split
    · exact .refl _
    · exact (List.Perm.cons y (insR_perm x r)).trans (List.Perm.swap x y r)
theorem srtR_perm : ∀ l, (srtR l).Perm l
  | [] => .refl _
  | x :: r => (insR_perm x (srtR r)).trans (.cons x (srtR_perm r))
theorem insR_sorted (x : List Int) : ∀ l : List (List Int), l.Pairwise (· ≤ ·) → (insR x l).Pairwise (· ≤ ·)
  | [], _ => List.pairwise_singleton _ _
  | y :: r, h => by
    unfold insR
    rw [List.pairwise_cons] at h
    split
    · rename_i hxy
      rw [leR_iff, decide_eq_true_eq] at hxy
      rw [List.pairwise_cons]
      refine ⟨fun z hz => ?_, List.pairwise_cons.mpr h⟩
      rcases List.mem_cons.mp hz with rfl | hz
      · exact hxy
      · exact List.le_trans hxy (h.1 z hz)
    · rename_i hxy
      rw [leR_iff, decide_eq_true_eq] at hxy
      rw [List.pairwise_cons]
      refine ⟨fun z hz => ?_, insR_sorted x r h.2⟩
      rcases List.mem_cons.mp ((insR_perm x r).mem_iff.mp hz) with rfl | hz
      · exact (List.le_total _ _).resolve_left hxy
      · exact h.1 z hz
theorem srtR_sorted : ∀ l : List (List Int), (srtR l).Pairwise (· ≤ ·)
  | [] => .nil
  | x :: r => insR_sorted x _ (srtR_sorted r)
theorem rows_uniq {l m : List (List Int)} (h : l.Perm m) (h1 : l.Pairwise (· ≤ ·)) (h2 : m.Pairwise (· ≤ ·)) : l = m :=
  h.eq_of_pairwise (fun a b _ _ x y => List.le_antisymm x y) h1 h2
theorem mergeR (l : List (List Int)) : l.mergeSort (fun p q => decide (p ≤ q)) = srtR l := by
  refine rows_uniq ((List.mergeSort_perm l _).trans (srtR_perm l).symm) ?_ (srtR_sorted l)
  have := List.pairwise_mergeSort (le := fun p q : List Int => decide (p ≤ q)) (fun a b c h1 h2 => by
    rw [decide_eq_true_eq] at *; exact List.le_trans h1 h2) (fun a b => by
    simp only [Bool.or_eq_true, decide_eq_true_eq]; exact List.le_total a b) l
  exact this.imp fun h => by simpa using h

/-! ### sorted(x), x a list or a tuple -/
section
variable {prog : Program} {w : World} {A : Around} {E : Value → Shared → Prop} {s : Shared}
theorem collect_tuple {l : Addr} {vs : List Value} {Q : List Value → Shared → Prop} (hl : s.heap.IsTuple l vs.toArray)
    (h : Q vs { s with heap := (s.heap.push (seqObj "list" #[] 0)).update s.heap.objs.size (Obj.mapSeq (· ++ vs.toArray)) }) (hsz : vs.length ≤ sizeLine := by size_fits) :
    wpAny (model prog w) A (collect (.ref l)) Q E s := by
  obtain ⟨o, ho, hc, n, hd⟩ := id hl
  unfold collect
  refine wpAny_bind (wpAny_runValue (codeAny_builtin entry_proto_collect' ?_))
  show wpAny _ _ (do again (.builtin "list.__iadd__" ⟨[← newList [], .ref l], []⟩)) _ _ s
  refine wpAny_bind (wpAny_newList (wpAny_pure ⟨Code.quiet_builtin _ (by decide +kernel), codeAny_builtin entry_list_iadd' ?_⟩))
  show wpAny _ _ (Builtin.List.listExtendWith (.ref s.heap.objs.size) (.ref l) (.ref s.heap.objs.size)) _ _ { s with heap := s.heap.push (seqObj "list" #[] 0) }
  unfold Builtin.List.listExtendWith
  have ho' : (s.heap.push (seqObj "list" #[] 0)).get? l = some o := Heap.get?_push_of_some _ ho
  refine wpAny_bind (wpAny_typeOf (T := "tuple") ⟨o, ho', hc⟩ ?_)
  rw [if_pos (show (Builtin.List.listSameRef (Value.ref s.heap.objs.size) (Value.ref l) || Value.type "tuple" == Value.type "list" || Value.type "tuple" == Value.type "tuple") = true by
    rw [show (Value.type "tuple" == Value.type "tuple") = true by decide +kernel, Bool.or_true])]
  refine wpAny_bind (listItems_at ho' hd ?_)
  refine wpAny_bind (listItems_at (xs := #[]) (n := 0) (Heap.get?_push_size _ rfl) rfl ?_)
  rw [if_neg (by simp)]
  refine wpAny_bind (listUpdate_at (xs := #[]) (n := 0) (Heap.get?_push_size _ rfl) rfl ?_ (Nat.zero_le _) (by show (#[] ++ vs.toArray).size ≤ sizeLine + 1; simp only [Array.size_append, List.size_toArray, List.length_nil]; omega))
  refine wpAny_pure ?_
  show wpAny (model prog w) A (do
      let o ← load s.heap.objs.size
      match o.data with
      | .seq xs _ => pure xs.toList
      | _ => unsupported "internal:collect") Q E { s with heap := (s.heap.push (seqObj "list" #[] 0)).update s.heap.objs.size (Obj.mapSeq (· ++ vs.toArray)) }
  refine wpAny_bind (wpAny_load (get?_update_seq (Heap.get?_push_size _ rfl) _) ?_)
  show wpAny _ _ (pure ((#[] : Array Value) ++ vs.toArray).toList) Q E _
  rw [show ((#[] : Array Value) ++ vs.toArray).toList = vs by simp]
  exact wpAny_pure h
end
end FL
namespace SrtO
open PySem PySem.Spec PyProof.Rows L2
section
variable {prog : Program} {w : World} {A : Around} {E : Value → Shared → Prop} {s : Shared}
theorem sorted_ordT {l : Addr} {vs : List Value} {ltv : Value → Value → Bool} {Q : Value → Shared → Prop} (O : Swo ltv) (hl : s.heap.IsTuple l vs.toArray) (hz : vs.length ≤ sizeLine)
    (hS : 2 ≤ vs.length → ∀ (h₁ : Heap) (a : Addr), h₁.get? a = some (seqObj "list" vs.toArray 0) → (∀ b o, s.heap.get? b = some o → b ≠ a ∧ h₁.get? b = some o) → SortableO prog w A.in1.in1 { s with heap := h₁ } a vs ltv)
    (h : ∀ out : List Value, Srtd ltv out → Stb ltv out vs → Q (.ref (s.heap.objs.size + 1)) { s with heap := sortedAll s.heap vs out.toArray }) :
    wpAny (model prog w) A (call (.builtin "sorted") [.ref l]) Q E s := by
  refine Calls.call_function_entry kind_sorted plain_sorted entry_sorted (args_sorted1 _) ?_
  unfold Builtin.«sorted»
  refine wpAny_bind (m := checkCount "sorted" 1 1 _) (wpAny_pure ?_)
  refine wpAny_bind (FL.collect_tuple hl ?_ hz)
  refine wpAny_bind (wpAny_newList ?_ hz)
  have hsz : ((s.heap.push (seqObj "list" #[] 0)).update s.heap.objs.size (Obj.mapSeq (· ++ vs.toArray))).objs.size = s.heap.objs.size + 1 := by
    rw [Heap.size_update, size_push']
  have hoL : (((s.heap.push (seqObj "list" #[] 0)).update s.heap.objs.size (Obj.mapSeq (· ++ vs.toArray))).push (seqObj "list" vs.toArray 0)).get? (s.heap.objs.size + 1) = some (seqObj "list" vs.toArray 0) := by
    rw [← hsz]; exact Heap.get?_push_size _ rfl
  have keep : ∀ b o, s.heap.get? b = some o → b ≠ s.heap.objs.size + 1 ∧ (((s.heap.push (seqObj "list" #[] 0)).update s.heap.objs.size (Obj.mapSeq (· ++ vs.toArray))).push (seqObj "list" vs.toArray 0)).get? b = some o := fun b o q => by
    have hlt : b < s.heap.objs.size := Heap.lt_size q
    refine ⟨Nat.ne_of_lt (Nat.lt_succ_of_lt hlt), Heap.get?_push_of_some _ ?_⟩
    rw [Heap.get?_update_ne _ _ _ _ (Nat.ne_of_lt hlt)]
    exact Heap.get?_push_of_some _ q
  show wpAny _ _ _ _ _ { s with heap := ((s.heap.push (seqObj "list" #[] 0)).update s.heap.objs.size (Obj.mapSeq (· ++ vs.toArray))).push (seqObj "list" vs.toArray 0) }
  rw [hsz]
  refine wpAny_bind (wpAny_holding (wpAny_call_entry slot_list_sort ⟨_, hoL, rfl⟩ entry_list_sort (list_sort_ord O hoL hz (fun h2 => hS h2 _ _ hoL keep) fun out hs hb => ⟨_, rfl, ?_⟩) (args_list_sort _)))
  exact wpAny_pure ⟨_, rfl, h out hs hb⟩
end
end SrtO
namespace FL
open PySem PySem.Spec PyProof.Rows L2
section
variable {X : Cx}
abbrev rSortedIA (K : PySem.W.Frag) : List V → Hp → VK → Prop := fun vs H Q => ∃ (a : Addr) (ns : List Int), vs = [V.ref a] ∧ (SqL K H a (ns.map V.int) ∨ SqT K H a (ns.map V.int)) ∧
  ∀ (ns' : List Int) (p : Addr), ns'.Perm ns → ns'.Pairwise (· ≤ ·) → H p = none → Q (.ref p) (upd H p (.lst (ns'.map V.int)))
theorem cr_sortedIA : CallR X (.builtin "sorted") (rSortedIA X.K) := by
  intro pins s σ H vs us Q I r h
  obtain ⟨a, ns, rfl, hs | hs, q⟩ := h
  · exact cr_sortedI pins s σ H _ us Q I r ⟨a, ns, rfl, hs, q⟩
  · obtain ⟨its, rv, hl, hz⟩ := I.tuple hs
    rw [Vals.ref1 r]
    have hi := rv.ints
    refine SrtO.sorted_ordT SrtO.swo_int (show s.heap.IsTuple a its.toArray from hl) (by rw [← rv.length]; exact hz) (fun h2 h₁ a' _ _ => SrtO.ints_sortable hi h2) fun out h1 h2 => ?_
    obtain ⟨k1, k2, k3⟩ := SrtO.ints_out hi h1 h2
    obtain ⟨ep, he'⟩ := PyProof.Rows.sortedAll_at s.heap its out.toArray
    have hlen : ((out.map SrtO.iv).map V.int).length ≤ sizeLine := by
      rw [List.length_map, k2.length_eq]
      rw [List.length_map] at hz
      exact hz
    exact ⟨.ref _, upd H (s.heap.objs.size + 1) (.lst ((out.map SrtO.iv).map V.int)), I.laid (t' := s.toks) (fun _ _ => PyProof.Rows.sortedAll_old) (Nat.le_succ _) ⟨hlen, out, ep, vals_of_ints k1, he'⟩, rfl, q _ _ k2 k3 (I.hok.fresh (Nat.le_succ _))⟩
/-- rows of ints, none empty -/
def RowV (K : PySem.W.Frag) (H : Hp) (x : V) (b : List Int) : Prop := ∃ t, x = V.ref t ∧ SqT K H t (b.map V.int)
abbrev rSortedRw (K : PySem.W.Frag) : List V → Hp → VK → Prop := fun vs H Q => ∃ (a : Addr) (xs : List V) (bs : List (List Int)) (S : V → List Int → Prop), vs = [V.ref a] ∧ SqL K H a xs ∧ PySem.W.EachIs (fun x b => RowV K H x b ∧ S x b) xs bs ∧ (∀ b ∈ bs, b ≠ []) ∧
  ∀ (ys : List V) (p : Addr), PySem.W.EachIs (fun x b => RowV K H x b ∧ S x b) ys (srtR bs) → H p = none → Q (.ref p) (upd H p (.lst ys))
theorem intsData : ∀ {ns : List Int} {us : List Value} (h : Heap), Vals (ns.map V.int) us → ∃ as, ReadsAll h us (ns.map PyData.int) as
  | [], us, h, r => by cases r; exact ⟨_, .nil⟩
  | n :: ns, us, h, r => by
    cases r with
    | cons r1 r2 =>
      obtain ⟨t, rfl⟩ := r1
      obtain ⟨as, q⟩ := intsData h r2
      exact ⟨_, .cons (.int n t) q⟩
theorem rowReads {pins : List (Addr × Obj)} {σ : L2.St} {H : Hp} {s : Shared} {x : V} {u : Value} {b : List Int} (I : Inv X pins σ H s) (h : RowV X.K H x b) (r : RelV x u) : ∃ as, Reads s.heap u (.tuple (b.map .int)) as := by
  obtain ⟨t, rfl, hq⟩ := h
  cases r
  obtain ⟨its, rv, ⟨o, ho, hc, n, hd⟩, _⟩ := I.tuple hq
  obtain ⟨as, q⟩ := intsData s.heap rv
  exact ⟨_, .tuple ho hc hd q⟩
theorem each_rel {R : V → List Int → Prop} : ∀ {xs : List V} {us : List Value} {bs : List (List Int)}, Vals xs us → PySem.W.EachIs R xs bs → PySem.W.EachIs (fun u b => ∃ x, RelV x u ∧ R x b) us bs
  | _, _, _, .nil, .nil => .nil
  | _, _, _, .cons r rr, .cons h hh => .cons ⟨_, r, h⟩ (each_rel rr hh)
theorem each_back {R : V → List Int → Prop} : ∀ {us : List Value} {bs : List (List Int)}, PySem.W.EachIs (fun u b => ∃ x, RelV x u ∧ R x b) us bs → ∃ xs, Vals xs us ∧ PySem.W.EachIs R xs bs
  | _, _, .nil => ⟨[], .nil, .nil⟩
  | _, _, .cons ⟨x, r, h⟩ hh => let ⟨xs, a, b⟩ := each_back hh; ⟨x :: xs, .cons r a, .cons h b⟩
theorem alikeI : ∀ xs ys : List Int, PySem.W.alikeAll (xs.map PyData.int) (ys.map PyData.int) = true
  | [], _ => by simp [PySem.W.alikeAll]
  | _ :: _, [] => by simp [PySem.W.alikeAll]
  | x :: xs, y :: ys => by
    rw [List.map_cons, List.map_cons, PySem.W.alikeAll, alikeI xs ys]; rfl
theorem dataLe_tups : PySem.W.dataLe false (fun b : List Int => PyData.tuple (b.map .int)) = fun p q => decide (p ≤ q) := by
  funext p q
  exact congrFun (congrFun (PySem.W.dataLe_rows (β := List Int) fun b => b) p) q
theorem cr_sortedRw (hu : X.A.units + 64 < cLine) : CallR X (.builtin "sorted") (rSortedRw X.K) := by
  intro pins s σ H vs us Q I r h
  obtain ⟨a, xs, bs, S, rfl, hs, he, hne, q⟩ := h
  obtain ⟨its, rv, hl, hz⟩ := I.list hs
  rw [Vals.ref1 r]
  have e1 := each_rel rv he
  have hlen : its.length = bs.length := e1.length
  have hlx := rv.length
  refine PySem.W.sorted_data (enc := fun b => .tuple (b.map .int)) (R := fun u b => ∃ x, RelV x u ∧ (RowV X.K H x b ∧ S x b)) hl.isList e1 (e1.mono fun u b ⟨x, rx, hx⟩ => rowReads I hx.1 rx)
    (fun d hd d' hd' => ?_) (.inl fun d hd => ?_) (by omega) (fun b hb => ?_) (fun out hout ho => ?_)
  · obtain ⟨b, _, rfl⟩ := List.mem_map.mp hd
    obtain ⟨b', _, rfl⟩ := List.mem_map.mp hd'
    show PySem.W.alikeAll _ _ = true
    exact alikeI b b'
  · obtain ⟨b, hb, rfl⟩ := List.mem_map.mp hd
    cases b with
    | nil => exact absurd rfl (hne [] hb)
    | cons x r => exact ⟨_, _, rfl⟩
  · have hd : (PyData.tuple (b.map .int)).depth = 1 := by
      rw [PyData.depth, PySem.W.depth_ints]
    rw [hd]
    omega
  · rw [dataLe_tups, mergeR] at ho
    obtain ⟨ys, hv, hy⟩ := each_back ho
    obtain ⟨ep, he'⟩ := PyProof.Rows.sortedAll_at s.heap its out.toArray
    have hyl := hv.length
    exact ⟨.ref _, upd H (s.heap.objs.size + 1) (.lst ys), I.laid (t' := s.toks) (fun _ _ => PyProof.Rows.sortedAll_old) (Nat.le_succ _) ⟨by omega, out, ep, hv, he'⟩, rfl, q _ _ hy (I.hok.fresh (Nat.le_succ _))⟩
abbrev rSortedE (K : PySem.W.Frag) : List V → Hp → VK → Prop := fun vs H Q => ∃ (a : Addr) (xs : List V), vs = [V.ref a] ∧ SqL K H a xs ∧ xs.length < 2 ∧ ∀ (p : Addr), H p = none → Q (.ref p) (upd H p (.lst xs))
theorem swoF : SrtO.Swo (fun _ _ : Value => false) := ⟨(fun _ _ h => by cases h), (fun _ _ _ _ _ => rfl)⟩
theorem shortPerm {α : Type} {l m : List α} (h : l.Perm m) (hl : m.length < 2) : l = m := by
  cases m with
  | nil => exact List.Perm.eq_nil h
  | cons x r => cases r with
    | nil => exact List.perm_singleton.mp h
    | cons y r => exact absurd hl (by simp only [List.length_cons]; omega)
theorem cr_sortedE : CallR X (.builtin "sorted") (rSortedE X.K) := by
  intro pins s σ H vs us Q I r h
  obtain ⟨a, xs, rfl, hs, hlt, q⟩ := h
  obtain ⟨its, rv, hl, hz⟩ := I.list hs
  rw [Vals.ref1 r]
  have hlx := rv.length
  refine SrtO.sorted_ord (ltv := fun _ _ => false) swoF hl.isList (by rw [← hlx]; exact hz) (fun h2 => absurd h2 (by omega)) fun out h1 h2 => ?_
  obtain ⟨ep, he'⟩ := PyProof.Rows.sortedAll_at s.heap its out.toArray
  have hout : out = its := shortPerm h2.1 (by omega)
  subst hout
  exact ⟨.ref _, upd H (s.heap.objs.size + 1) (.lst xs), I.laid (t' := s.toks) (fun _ _ => PyProof.Rows.sortedAll_old) (Nat.le_succ _) ⟨hz, out, ep, rv, he'⟩, rfl, q _ (I.hok.fresh (Nat.le_succ _))⟩
end
/-- rows behind data -/
def rowsOf : List D → Option (List (List Int))
  | [] => some []
  | .tup ds :: r => (intsOf ds).bind fun x => (rowsOf r).map (x :: ·)
  | _ :: _ => none
def rowD (b : List Int) : D := .tup (b.map .int)
theorem rowsOf_map : ∀ bs : List (List Int), rowsOf (bs.map rowD) = some bs
  | [] => rfl
  | b :: bs => by
    simp only [List.map_cons, rowD, rowsOf, intsOf_map, Option.bind_some]
    rw [show rowsOf (bs.map rowD) = some bs from rowsOf_map bs]; rfl
theorem rowsOf_eq : ∀ {ds : List D} {bs : List (List Int)}, rowsOf ds = some bs → ds = bs.map rowD
  | [], bs, h => by simp only [rowsOf, Option.some.injEq] at h; subst h; rfl
  | .tup xs :: r, bs, h => by
    simp only [rowsOf, Option.bind_eq_some_iff, Option.map_eq_some_iff] at h
    obtain ⟨x, h1, rs, h2, rfl⟩ := h
    rw [List.map_cons, ← rowsOf_eq h2, intsOf_eq h1]; rfl
  | .non :: _, bs, h | .bl _ :: _, bs, h | .str _ :: _, bs, h | .int _ :: _, bs, h | .lst _ :: _, bs, h | .dic _ _ :: _, bs, h | .tok :: _, bs, h => by simp [rowsOf] at h
theorem reps_rows {K : PySem.W.Frag} {q : Qa} {F H : Hp} (hs : Same F H) : ∀ {bs : List (List Int)} {vs : List V}, Reps K q F vs (bs.map rowD) → PySem.W.EachIs (fun x b => RowV K H x b ∧ Rep K q F x (rowD b)) vs bs
  | [], vs, h => by cases h; exact .nil
  | b :: bs, vs, h => by
    cases h with
    | cons h1 h2 =>
      refine .cons ⟨?_, h1⟩ (reps_rows hs h2)
      cases h1 with
      | tup hq r => cases r.ints; exact ⟨_, rfl, same_sqt hs hq.sq⟩
abbrev rSortA (K : PySem.W.Frag) : List V → Hp → VK → Prop := fun xs H Q => rSortedIA K xs H Q ∨ (rSortedRw K xs H Q ∨ rSortedE K xs H Q)
theorem cr_sortA {X : Cx} (hu : X.A.units + 64 < cLine) : CallR X (.builtin "sorted") (rSortA X.K) := cr_sortedIA.or ((cr_sortedRw hu).or cr_sortedE)
def aSortA : List D → Option D
  | [.lst ds] => if ds.length < 2 then some (.lst ds) else match intsOf ds with
    | some ns => some (.lst ((srtI ns).map .int))
    | none => match rowsOf ds with
      | some bs => if (bs.all fun b => !b.isEmpty) = true then some (.lst ((srtR bs).map rowD)) else none
      | none => none
  | [.tup ds] => (intsOf ds).map fun ns => .lst ((srtI ns).map .int)
  | _ => none
theorem each_reps {K : PySem.W.Frag} {q : Qa} {F : Hp} {f : List Int → D} : ∀ {xs : List V} {bs : List (List Int)}, PySem.W.EachIs (fun x b => Rep K q F x (f b)) xs bs → Reps K q F xs (bs.map f)
  | _, _, .nil => .nil
  | _, _, .cons h t => .cons h (each_reps t)
end FL
end
section
/-! FL: sorted, tuple * int, reversed copies. -/
namespace FL
open PySem PySem.Spec PyProof.Rows L2
section
variable {K : PySem.W.Frag}
theorem each_left {R S : V → List Int → Prop} : ∀ {xs : List V} {bs : List (List Int)}, PySem.W.EachIs (fun x b => R x b ∧ S x b) xs bs → PySem.W.EachIs R xs bs
  | _, _, .nil => .nil
  | _, _, .cons h t => .cons h.1 (each_left t)
theorem each_right {R S : V → List Int → Prop} : ∀ {xs : List V} {bs : List (List Int)}, PySem.W.EachIs (fun x b => R x b ∧ S x b) xs bs → PySem.W.EachIs S xs bs
  | _, _, .nil => .nil
  | _, _, .cons h t => .cons h.2 (each_right t)
theorem sortA_pureF : PureAF K (rSortA K) aSortA := by
  intro q F H ω xs a d Q hs ho hx e k
  unfold aSortA at e
  split at e
  · rename_i ds
    obtain ⟨v, rfl, hv⟩ := hx.one
    obtain ⟨p, vs, rfl, h1, r⟩ := hv.lst hs
    have hl := r.length
    split at e
    · cases e
      exact .inr (.inr ⟨p, vs, rfl, .inl (.inl h1), by omega, fun l hl => k F _ l (Post.fresh hs ho hl) hl (same_none hs hl) ⟨_, upd_same, r⟩⟩)
    · split at e
      · rename_i ns e1
        cases e
        cases intsOf_eq e1
        cases r.ints
        refine .inl ⟨p, ns, rfl, .inl (.inl (.inl h1)), fun ns' l hp hpw hl => ?_⟩
        rw [sorted_uniq (hp.trans (srtI_perm ns).symm) hpw (srtI_sorted ns)]
        exact k F _ l (Post.fresh hs ho hl) hl (same_none hs hl) ⟨_, upd_same, reps_ints _⟩
      · split at e
        · rename_i bs e2
          split at e
          · rename_i hb
            cases e
            cases rowsOf_eq e2
            refine .inr (.inl ⟨p, vs, bs, fun x b => Rep K q F x (rowD b), rfl, .inl (.inl h1), reps_rows hs r, fun b hb' => ?_, fun ys l he hl => ?_⟩)
            · have := List.all_eq_true.mp hb b hb'
              intro z; subst z; cases this
            · exact k F _ l (Post.fresh hs ho hl) hl (same_none hs hl) ⟨_, upd_same, each_reps (each_right he)⟩
          · cases e
        · cases e
  · rw [Option.map_eq_some_iff] at e
    obtain ⟨ns, e1, rfl⟩ := e
    obtain ⟨v, rfl, hv⟩ := hx.one
    cases intsOf_eq e1
    obtain ⟨p, vs, rfl, h1, r⟩ := hv.tup hs
    cases r.ints
    refine .inl ⟨p, ns, rfl, .inr h1, fun ns' l hp hpw hl => ?_⟩
    rw [sorted_uniq (hp.trans (srtI_perm ns).symm) hpw (srtI_sorted ns)]
    exact k F _ l (Post.fresh hs ho hl) hl (same_none hs hl) ⟨_, upd_same, reps_ints _⟩
  · cases e
end
end FL
end
section
namespace FL
open PySem PySem.Spec PyProof.Rows L2
theorem iteB {A B : Prop} {b : Bool} (h1 : b = true → A) (h2 : b = false → B) : if b = true then A else B := by
  cases b
  · exact iteF (h2 rfl)
  · exact iteT (h1 rfl)
theorem ixN0 {x : Int} {r : List Int} : ixN ((x :: r).map V.int).length 0 = some 0 := by
  unfold ixN
  simp
end FL
end
section
/-! FL: reasoning about meanings in plain mathematics. -/
namespace FL
open PySem PySem.Spec PyProof.Rows L2
section
variable {α β : Type}
theorem bnd_r (a : α) (k : α → M β) : bnd (ret a) k = k a := Eq.symm rfl
theorem opt_s (a : α) : opt (some a) = ret a := Eq.symm rfl
theorem ret_at (a : α) (ω : Ora) : (ret a) ω = some (a, ω) := rfl
theorem bnd_at {m : M α} {k : α → M β} {ω ω1 : Ora} {a : α} (e : m ω = some (a, ω1)) : bnd m k ω = k a ω1 := by unfold bnd; rw [e]
theorem tr_eqr {P : α → Prop} {m : M α} {a : α} (e : m = FL.ret a) (h : P a) : Tr m P := by rw [e]; exact Tr.ret h
theorem tr_seq {a b : SF} {ρ : Env} {P : Out → Prop} (h : Tr (a ρ) (fun o => ∃ ρ', o = .nx ρ' ∧ Tr (b ρ') P)) : Tr (seqS a b ρ) P :=
  Tr.bnd h fun o ⟨ρ', e, q⟩ => by subst e; exact q
theorem tr_seqRt {a b : SF} {ρ : Env} {P : Out → Prop} (h : Tr (a ρ) (fun o => (∃ ρ', o = .nx ρ' ∧ Tr (b ρ') P) ∨ (∃ fr d, o = .rt fr d ∧ P o))) : Tr (seqS a b ρ) P :=
  Tr.bnd h fun o q => by
    rcases q with ⟨ρ', e, q⟩ | ⟨fr, d, e, q⟩
    · subst e; exact q
    · subst e; exact Tr.ret q
theorem tr_setD {i : Nat} {f : EF} {ρ : Env} {P : Out → Prop} (h : Tr (f ρ) (fun d => P (.nx (sset ρ i (.d d))))) : Tr (setD i f ρ) P :=
  Tr.bnd h fun d q => Tr.ret q
theorem tr_setO {i : Nat} {f : EF} {ρ : Env} {P : Out → Prop} (h : Tr (f ρ) (fun d => P (.nx (sset ρ i (.o d))))) : Tr (setO i f ρ) P :=
  Tr.bnd h fun d q => Tr.ret q
theorem tr_ifT {t : BF} {a b : SF} {ρ : Env} {P : Out → Prop} (h : t ρ = FL.ret true) (h2 : Tr (a ρ) P) : Tr (ifS t a b ρ) P := by
  unfold ifS; rw [h]; exact h2
theorem tr_ifF {t : BF} {a b : SF} {ρ : Env} {P : Out → Prop} (h : t ρ = FL.ret false) (h2 : Tr (b ρ) P) : Tr (ifS t a b ρ) P := by
  unfold ifS; rw [h]; exact h2
/-- a loop with an invariant that tells what is left -/
theorem tr_forL {b : GF} {body : SF} {I : List D → Env → Prop} {P : Out → Prop} : ∀ {ds : List D} {ρ : Env}, I ds ρ → (∀ d r ρ, (d :: r) <:+ ds → I (d :: r) ρ → ∃ ρ1, b d ρ = some ρ1 ∧ Tr (body ρ1) (fun o => ∃ ρ', o = .nx ρ' ∧ I r ρ')) → (∀ ρ, I [] ρ → P (.nx ρ)) → Tr (forL b body ds ρ) P
  | [], ρ, hi, _, hp => Tr.ret (hp ρ hi)
  | d :: ds, ρ, hi, hs, hp => by
    obtain ⟨ρ1, e1, h1⟩ := hs d ds ρ (List.suffix_refl _) hi
    show Tr (bnd (opt (b d ρ)) _) P
    rw [e1, opt_s, bnd_r]
    refine Tr.bnd h1 fun o ⟨ρ', e, i⟩ => ?_
    subst e
    exact tr_forL i (fun d r ρ h => hs d r ρ (h.trans (List.suffix_cons _ _))) hp
theorem tr_forS {it : AF} {b : GF} {body : SF} {I : List D → Env → Prop} {P : Out → Prop} {ds : List D} {ρ : Env} (e : it ρ = FL.ret ds) (h0 : I ds ρ) (hs : ∀ d r ρ, (d :: r) <:+ ds → I (d :: r) ρ → ∃ ρ1, b d ρ = some ρ1 ∧ Tr (body ρ1) (fun o => ∃ ρ', o = .nx ρ' ∧ I r ρ')) (hp : ∀ ρ, I [] ρ → P (.nx ρ)) : Tr (forS it b body ρ) P := by
  unfold FL.forS; rw [e]; exact tr_forL h0 hs hp
/-- a while loop with a measure -/
theorem tr_whL {t : BF} {body : SF} {I : Nat → Env → Prop} {P : Out → Prop} (ht : ∀ n ρ, I n ρ → (t ρ = FL.ret false ∧ P (.nx ρ)) ∨ (t ρ = FL.ret true ∧ Tr (body ρ) (fun o => ∃ ρ' m, o = .nx ρ' ∧ m < n ∧ I m ρ'))) : ∀ (k n : Nat) (ρ : Env), n < k → I n ρ → Tr (whL t body k ρ) P
  | 0, n, ρ, hk, _ => absurd hk (Nat.not_lt_zero _)
  | k + 1, n, ρ, hk, hi => by
    unfold FL.whL
    rcases ht n ρ hi with ⟨e, p⟩ | ⟨e, p⟩
    · rw [e]; exact Tr.ret p
    · rw [e]
      show Tr (bnd (body ρ) _) P
      refine Tr.bnd p fun o ⟨ρ', m, e', hm, i⟩ => ?_
      subst e'
      exact tr_whL ht k m ρ' (by omega) i
theorem tr_whS {t : BF} {body : SF} {I : Nat → Env → Prop} {P : Out → Prop} {n : Nat} {ρ : Env} (hn : n < WF) (hi : I n ρ) (ht : ∀ n ρ, I n ρ → (t ρ = FL.ret false ∧ P (.nx ρ)) ∨ (t ρ = FL.ret true ∧ Tr (body ρ) (fun o => ∃ ρ' m, o = .nx ρ' ∧ m < n ∧ I m ρ'))) : Tr (whS t body ρ) P :=
  tr_whL ht WF n ρ hn hi
/-- a call -/
theorem tr_runS {n ar : Nat} {fr : Bool} {s : SF} {ds : List D} {P : D → Prop} (hl : ds.length = ar) (h : Tr (s (mkE ds (n - ar))) (fun o => ∃ d, outO fr o = some d ∧ P d)) : Tr (runS n ar fr s ds) P := by
  unfold FL.runS
  rw [if_pos hl]
  exact Tr.bnd h fun o ⟨d, e, p⟩ => Tr.opt e p
/-! pure loops -/
theorem lcL_pure {b : GF} {tt : BF} {el : EF} {ρ : Env} (enc : α → D) (f : α → Option D) : ∀ (l : List α), (∀ a ∈ l, ∃ ρ1, b (enc a) ρ = some ρ1 ∧ ((f a = none ∧ tt ρ1 = ret false) ∨ ∃ x, f a = some x ∧ tt ρ1 = ret true ∧ el ρ1 = ret x)) → lcL b tt el ρ (l.map enc) = ret (l.filterMap f)
  | [], _ => rfl
  | a :: l, h => by
    obtain ⟨ρ1, e1, h1⟩ := h a (by simp)
    rw [List.map_cons, lcL, e1, opt_s, bnd_r]
    have ih := lcL_pure enc f l fun a ha => h a (by simp [ha])
    rcases h1 with ⟨e2, e3⟩ | ⟨x, e2, e3, e4⟩
    · rw [e3, bnd_r, List.filterMap_cons_none e2]; exact ih
    · rw [e3, bnd_r, List.filterMap_cons_some e2]
      show bnd (el ρ1) _ = _
      rw [e4, bnd_r, ih, bnd_r]
theorem lcE_pure {it : AF} {b : GF} {tt : BF} {el : EF} {vs : List Nat} {ρ : Env} (enc : α → D) (f : α → Option D) (l : List α) (hi : it ρ = ret (l.map enc)) (hz : l.length ≤ sizeLine) (h : ∀ a ∈ l, ∃ ρ1, b (enc a) (fgt vs ρ) = some ρ1 ∧ ((f a = none ∧ tt ρ1 = ret false) ∨ ∃ x, f a = some x ∧ tt ρ1 = ret true ∧ el ρ1 = ret x)) : lcE it b tt el vs ρ = ret (.lst (l.filterMap f)) := by
  unfold lcE
  rw [hi, bnd_r, List.length_map, if_pos hz, lcL_pure enc f l h]
  rfl
/-- every element kept -/
theorem lcE_map {it : AF} {b : GF} {el : EF} {vs : List Nat} {ρ : Env} (enc : α → D) (f : α → D) (l : List α) (hi : it ρ = ret (l.map enc)) (hz : l.length ≤ sizeLine) (h : ∀ a ∈ l, ∃ ρ1, b (enc a) (fgt vs ρ) = some ρ1 ∧ el ρ1 = ret (f a)) : lcE it b yesB el vs ρ = ret (.lst (l.map f)) := by
  have := lcE_pure (tt := yesB) enc (fun a => some (f a)) l hi hz fun a ha => let ⟨ρ1, e1, e2⟩ := h a ha; ⟨ρ1, e1, .inr ⟨_, rfl, rfl, e2⟩⟩
  rw [this]
  congr 2
  simp
theorem forL_pure {b : GF} {body : SF} (enc : α → D) (g : α → Env → Env) : ∀ (l : List α) (ρ : Env) (I : List α → Env → Prop), I l ρ → (∀ a r ρ, (a :: r) <:+ l → I (a :: r) ρ → ∃ ρ1, b (enc a) ρ = some ρ1 ∧ body ρ1 = ret (.nx (g a ρ)) ∧ I r (g a ρ)) → forL b body (l.map enc) ρ = ret (.nx (l.foldl (fun ρ a => g a ρ) ρ))
  | [], ρ, I, _, _ => rfl
  | a :: l, ρ, I, hi, h => by
    obtain ⟨ρ1, e1, e2, i⟩ := h a l ρ (List.suffix_refl _) hi
    show bnd (opt (b (enc a) ρ)) _ = _
    rw [e1, opt_s, bnd_r, e2, bnd_r]
    exact forL_pure enc g l _ I i fun a r ρ hs => h a r ρ (hs.trans (List.suffix_cons _ _))
end
/-! evaluating, from the left -/
def contS (b : SF) : Out → M Out := fun o => match o with
  | .nx ρ' => b ρ'
  | o => ret o
theorem seq_r (a b : SF) (ρ : Env) : seqS a b ρ = bnd (a ρ) (contS b) := Eq.symm rfl
theorem cont_nx (b : SF) (ρ : Env) : contS b (.nx ρ) = b ρ := Eq.symm rfl
theorem cont_rt (b : SF) (o : Bool) (d : D) : contS b (.rt o d) = ret (.rt o d) := Eq.symm rfl
theorem cont_bk (b : SF) (ρ : Env) : contS b (.bk ρ) = ret (.bk ρ) := Eq.symm rfl
theorem cont_ct (b : SF) (ρ : Env) : contS b (.ct ρ) = ret (.ct ρ) := Eq.symm rfl
def selS (a b : SF) (ρ : Env) (x : Bool) : M Out := bif x then a ρ else b ρ
theorem if_r (t : BF) (a b : SF) (ρ : Env) : ifS t a b ρ = bnd (t ρ) (selS a b ρ) := Eq.symm rfl
theorem sel_t (a b : SF) (ρ : Env) : selS a b ρ true = a ρ := Eq.symm rfl
theorem sel_f (a b : SF) (ρ : Env) : selS a b ρ false = b ρ := Eq.symm rfl
def selE (f g : EF) (ρ : Env) (x : Bool) : M D := bif x then f ρ else g ρ
theorem ife_r (t : BF) (f g : EF) (ρ : Env) : ifE t f g ρ = bnd (t ρ) (selE f g ρ) := Eq.symm rfl
theorem sele_t (a b : EF) (ρ : Env) : selE a b ρ true = a ρ := Eq.symm rfl
theorem sele_f (a b : EF) (ρ : Env) : selE a b ρ false = b ρ := Eq.symm rfl
def selA (g : BF) (ρ : Env) (x : Bool) : M Bool := bif x then g ρ else ret false
def selO (g : BF) (ρ : Env) (x : Bool) : M Bool := bif x then ret true else g ρ
theorem and_r (f g : BF) (ρ : Env) : andB f g ρ = bnd (f ρ) (selA g ρ) := Eq.symm rfl
theorem or_r (f g : BF) (ρ : Env) : orB f g ρ = bnd (f ρ) (selO g ρ) := Eq.symm rfl
theorem sela_t (g : BF) (ρ : Env) : selA g ρ true = g ρ := Eq.symm rfl
theorem sela_f (g : BF) (ρ : Env) : selA g ρ false = ret false := Eq.symm rfl
theorem selo_t (g : BF) (ρ : Env) : selO g ρ true = ret true := Eq.symm rfl
theorem selo_f (g : BF) (ρ : Env) : selO g ρ false = g ρ := Eq.symm rfl
def outM (fr : Bool) (o : Out) : M D := opt (outO fr o)
theorem run_r (n ar : Nat) (fr : Bool) (s : SF) (ds : List D) (h : ds.length = ar) : runS n ar fr s ds = bnd (s (mkE ds (n - ar))) (outM fr) := by unfold runS; rw [if_pos h]; rfl
theorem out_rt (d : D) : outM false (.rt false d) = ret d := Eq.symm rfl
theorem out_rtl (l : List D) : outM false (.rt true (.lst l)) = ret (.lst l) := Eq.symm rfl
theorem out_rtO (d : D) : outM true (.rt true d) = ret d := Eq.symm rfl
theorem out_nx (ρ : Env) : outM false (.nx ρ) = ret .non := Eq.symm rfl
theorem eLst_0 (ρ : Env) : eLst aN ρ = ret (.lst []) := by
  unfold eLst aN; rw [bnd_r]; simp only [List.length_nil, Nat.zero_le, if_true]; rfl
theorem eLst_1 (f : EF) (ρ : Env) : eLst (aC f aN) ρ = bnd (f ρ) fun x => ret (.lst [x]) := by
  funext ω
  unfold eLst aC aN bnd ret
  cases f ρ ω with
  | none => rfl
  | some p => show opt (if [p.1].length ≤ sizeLine then _ else _) _ = _; rw [if_pos (by rw [sizeLine_eq]; simp)]; rfl
theorem eLst_2 (f g : EF) (ρ : Env) : eLst (aC f (aC g aN)) ρ = bnd (f ρ) fun x => bnd (g ρ) fun y => ret (.lst [x, y]) := by
  funext ω
  unfold eLst aC aN bnd ret
  cases f ρ ω with
  | none => rfl
  | some p =>
    cases h : g ρ p.2 with
    | none => simp only [h]
    | some p' => simp only [h]; show opt (if [p.1, p'.1].length ≤ sizeLine then _ else _) _ = _; rw [if_pos (by rw [sizeLine_eq]; simp)]; rfl
theorem eLst_3 (f g k : EF) (ρ : Env) : eLst (aC f (aC g (aC k aN))) ρ = bnd (f ρ) fun x => bnd (g ρ) fun y => bnd (k ρ) fun z => ret (.lst [x, y, z]) := by
  funext ω
  unfold eLst aC aN bnd ret
  cases f ρ ω with
  | none => rfl
  | some p =>
    cases h : g ρ p.2 with
    | none => simp only [h]
    | some p' =>
      cases h2 : k ρ p'.2 with
      | none => simp only [h, h2]
      | some p'' => simp only [h, h2]; show opt (if [p.1, p'.1, p''.1].length ≤ sizeLine then _ else _) _ = _; rw [if_pos (by rw [sizeLine_eq]; simp)]; rfl
theorem eTup_0 (ρ : Env) : eTup aN ρ = ret (.tup []) := by
  unfold eTup aN; rw [bnd_r]; simp only [List.length_nil, Nat.zero_le, if_true]; rfl
theorem eTup_1 (f : EF) (ρ : Env) : eTup (aC f aN) ρ = bnd (f ρ) fun x => ret (.tup [x]) := by
  funext ω
  unfold eTup aC aN bnd ret
  cases f ρ ω with
  | none => rfl
  | some p => show opt (if [p.1].length ≤ sizeLine then _ else _) _ = _; rw [if_pos (by rw [sizeLine_eq]; simp)]; rfl
theorem eTup_2 (f g : EF) (ρ : Env) : eTup (aC f (aC g aN)) ρ = bnd (f ρ) fun x => bnd (g ρ) fun y => ret (.tup [x, y]) := by
  funext ω
  unfold eTup aC aN bnd ret
  cases f ρ ω with
  | none => rfl
  | some p =>
    cases h : g ρ p.2 with
    | none => simp only [h]
    | some p' => simp only [h]; show opt (if [p.1, p'.1].length ≤ sizeLine then _ else _) _ = _; rw [if_pos (by rw [sizeLine_eq]; simp)]; rfl
theorem eTup_3 (f g k : EF) (ρ : Env) : eTup (aC f (aC g (aC k aN))) ρ = bnd (f ρ) fun x => bnd (g ρ) fun y => bnd (k ρ) fun z => ret (.tup [x, y, z]) := by
  funext ω
  unfold eTup aC aN bnd ret
  cases f ρ ω with
  | none => rfl
  | some p =>
    cases h : g ρ p.2 with
    | none => simp only [h]
    | some p' =>
      cases h2 : k ρ p'.2 with
      | none => simp only [h, h2]
      | some p'' => simp only [h, h2]; show opt (if [p.1, p'.1, p''.1].length ≤ sizeLine then _ else _) _ = _; rw [if_pos (by rw [sizeLine_eq]; simp)]; rfl
/-! tuples of ints -/
def T (p : List Int) : D := .tup (p.map .int)
theorem seqD_T (p : List Int) : seqD (T p) = some (p.map .int) := Eq.symm rfl
theorem seqD_tup (p : List D) : seqD (.tup p) = some p := Eq.symm rfl
theorem seqD_lst (p : List D) : seqD (.lst p) = some p := Eq.symm rfl
theorem isNonD_non : isNonD .non = true := Eq.symm rfl
theorem isNonD_bl (b : Bool) : isNonD (.bl b) = false := Eq.symm rfl
theorem isNonD_int (i : Int) : isNonD (.int i) = false := Eq.symm rfl
theorem isNonD_str (x : Str) : isNonD (.str x) = false := Eq.symm rfl
theorem isNonD_tup (x : List D) : isNonD (.tup x) = false := Eq.symm rfl
theorem isNonD_lst (x : List D) : isNonD (.lst x) = false := Eq.symm rfl
theorem isNonD_T (x : List Int) : isNonD (T x) = false := Eq.symm rfl
theorem bnd_assoc {α β γ : Type} (m : M α) (k : α → M β) (l : β → M γ) : bnd (bnd m k) l = bnd m fun x => bnd (k x) l := by
  funext ω
  unfold bnd
  cases m ω with
  | none => rfl
  | some p => rfl
theorem tr_draw {β : Type} {m : Int} {k : D → M β} {P : β → Prop} (h0 : 0 < m) (h1 : m < 1000000) (h : ∀ v : Int, 0 ≤ v → v < m → Tr (k (.int v)) P) : Tr (bnd (drawM [.tok, .int m]) k) P :=
  Tr.bnd (R := fun d => ∃ v : Int, d = .int v ∧ 0 ≤ v ∧ v < m) (Tr.draw h0 (Nat.lt_of_lt_of_le (by omega : m.natAbs < 2 ^ 20) (Nat.pow_le_pow_right (by decide) (by decide))) fun v h1 h2 => ⟨v, rfl, h1, h2⟩) fun d ⟨v, e, h1, h2⟩ => by subst e; exact h v h1 h2
theorem tr_seq' {a b : SF} {ρ : Env} {P : Out → Prop} (R : Env → Prop) (h : Tr (a ρ) (fun o => ∃ ρ', o = .nx ρ' ∧ R ρ')) (h2 : ∀ ρ', R ρ' → Tr (b ρ') P) : Tr (seqS a b ρ) P :=
  tr_seq (h.mono fun o ⟨ρ', e, r⟩ => ⟨ρ', e, h2 ρ' r⟩)
theorem appO_ok {ds : List D} {d : D} (h : ds.length < 16777216) : appO (.o (.lst ds)) d = some (.lst (ds ++ [d])) := by
  show (if ds.length < sizeLine then some (D.lst (ds ++ [d])) else none) = _
  rw [if_pos (by rw [sizeLine_eq]; exact h)]
theorem aSum_T (p : List Int) : aSum [T p] = some (.int p.sum) := by
  show (intsD (T p)).map _ = _
  unfold intsD
  rw [seqD_T, Option.bind_some, intsOf_map]; rfl
theorem fm_filter {α : Type} (c : α → Bool) (g : α → D) : ∀ l : List α, (l.filterMap fun q => if c q = true then some (g q) else none) = (l.filter c).map g
  | [] => rfl
  | q :: l => by
    by_cases h : c q = true
    · rw [List.filterMap_cons_some (b := g q) (by simp only [h, if_true]), List.filter_cons_of_pos h, List.map_cons, fm_filter c g l]
    · rw [List.filterMap_cons_none (by simp only [h, if_false, Bool.false_eq_true]), List.filter_cons_of_neg h, fm_filter c g l]
theorem upC_down : ∀ (t : Nat) (lo : Int), lo = t → upC lo (-1) t = ((List.range t).map fun i : Nat => D.int (t - i))
  | 0, _, _ => rfl
  | t + 1, lo, h => by
    subst h
    rw [upC, upC_down t _ (by omega), List.range_succ_eq_map, List.map_cons, List.map_map]
    congr 1
    apply List.map_congr_left
    intro a _
    simp only [Function.comp]
    congr 1
    omega
theorem atI_last {α : Type} (q : List α) (z : α) : atI (q ++ [z]) (-1) = some z := by
  have hl : (q ++ [z]).length = q.length + 1 := by simp
  unfold atI ixN
  rw [hl, if_neg (by decide), if_pos (by omega), Option.bind_some, show ((-1 : Int) + ((q.length + 1 : Nat) : Int)).toNat = q.length by omega]
  simp
def loopS (b : GF) (body : SF) (ds : List D) : Out → M Out := fun o => match o with
  | .nx ρ' => forL b body ds ρ'
  | .ct ρ' => forL b body ds ρ'
  | .bk ρ' => ret (.nx ρ')
  | .rt o d => ret (.rt o d)
theorem forL_nil (b : GF) (body : SF) (ρ : Env) : forL b body [] ρ = ret (.nx ρ) := Eq.symm rfl
theorem forL_cons (b : GF) (body : SF) (d : D) (ds : List D) (ρ : Env) : forL b body (d :: ds) ρ = bnd (opt (b d ρ)) fun ρ1 => bnd (body ρ1) (loopS b body ds) := Eq.symm rfl
theorem loop_nx (b : GF) (body : SF) (ds : List D) (ρ : Env) : loopS b body ds (.nx ρ) = forL b body ds ρ := Eq.symm rfl
theorem loop_ct (b : GF) (body : SF) (ds : List D) (ρ : Env) : loopS b body ds (.ct ρ) = forL b body ds ρ := Eq.symm rfl
theorem loop_bk (b : GF) (body : SF) (ds : List D) (ρ : Env) : loopS b body ds (.bk ρ) = ret (.nx ρ) := Eq.symm rfl
theorem loop_rt (b : GF) (body : SF) (ds : List D) (o : Bool) (d : D) : loopS b body ds (.rt o d) = ret (.rt o d) := Eq.symm rfl
theorem okdT (n : Nat) (p : List Int) : okd (n + 1) (T p) = true := by
  simp [okd, T, List.all_map, List.all_eq_true]
theorem toPysI : ∀ p : List Int, toPys (p.map .int) = p.map PyData.int
  | [] => rfl
  | i :: p => by rw [List.map_cons, toPys, toPysI p]; rfl
end FL
end
section
set_option maxHeartbeats 1000000
/-! FL: equality, law_eq. -/
namespace FL
open PySem PySem.Spec PyProof.Rows L2
theorem eqD_refl {n : Nat} {d : D} (h : okd n d = true) : eqD d d = true := PySem.SeqAt.eqv_refl _ (okd_py n d h).1
theorem dEq_self {d : D} (h : okd 60 d = true) : dEq d d = some (.bl true) := by
  unfold dEq
  rw [h, eqD_refl h]; rfl
theorem dEq_int (i j : Int) : dEq (.int i) (.int j) = some (.bl (decide (i = j))) := by
  show some (D.bl (eqD _ _)) = _
  unfold eqD
  rw [toPy, toPy, PyData.eqv]
  congr 2
theorem dNe_int (i j : Int) : dNe (.int i) (.int j) = some (.bl (!decide (i = j))) := by
  show some (D.bl (!eqD _ _)) = _
  unfold eqD
  rw [toPy, toPy, PyData.eqv]
  congr 2
theorem eqvAll_ints : ∀ p q : List Int, PyData.eqvAll (p.map PyData.int) (q.map PyData.int) = decide (p = q)
  | [], [] => by rw [List.map_nil, PyData.eqvAll]; rfl
  | [], _ :: _ => by rw [List.map_nil, List.map_cons, PyData.eqvAll]; rfl
  | _ :: _, [] => by rw [List.map_nil, List.map_cons, PyData.eqvAll]; rfl
  | x :: xs, y :: ys => by
    rw [List.map_cons, List.map_cons, PyData.eqvAll, eqvAll_ints xs ys, PyData.eqv]
    simp [List.cons.injEq, Bool.decide_and]
    rfl
theorem eqD_T (p q : List Int) : eqD (T p) (T q) = decide (p = q) := by
  unfold eqD T
  rw [toPy, toPy, PyData.eqv, toPysI, toPysI, eqvAll_ints]
theorem dEq_T (p q : List Int) : dEq (T p) (T q) = some (.bl (decide (p = q))) := by
  unfold dEq
  rw [okdT 59, okdT 59, eqD_T]; rfl
theorem dNe_T (p q : List Int) : dNe (T p) (T q) = some (.bl (!decide (p = q))) := by
  unfold dNe
  rw [okdT 59, okdT 59, eqD_T]; rfl
theorem upI_eq : ∀ (n : Nat) (lo : Int), upI lo n = (List.range n).map fun k : Nat => D.int (lo + k)
  | 0, _ => rfl
  | n + 1, lo => by
    rw [upI, upI_eq n, List.range_succ_eq_map, List.map_cons, List.map_map]
    congr 1
    · simp
    · apply List.map_congr_left
      intro a _
      simp only [Function.comp]
      congr 1
      omega
theorem atI_lt {α : Type} {xs : List α} {k : Nat} (h : k < xs.length) : atI xs (k : Int) = some xs[k] := atI_nat (List.getElem?_eq_getElem h)
theorem fmn {α β : Type} : ∀ l : List α, List.filterMap (fun _ => (none : Option β)) l = []
  | [] => rfl
  | _ :: l => by rw [List.filterMap_cons_none rfl]; exact fmn l
/-- data that can be held against one another -/
def gd : Nat → D → Bool
  | _, .non => true
  | _, .bl _ => true
  | _, .int _ => true
  | _, .str x => PyData.strOk x
  | n + 1, .tup ds => ds.all (gd n) && decide (ds.length ≤ sizeLine)
  | n + 1, .lst ds => ds.all (gd n) && decide (ds.length ≤ sizeLine)
  | _, _ => false
theorem gd_okd : ∀ (n : Nat) (d : D), gd n d = true → okd n d = true
  | 0, d, h => by cases d <;> simp_all [gd, okd]
  | n + 1, d, h => by
    cases d <;> simp_all [gd, okd]
    all_goals exact fun x hx => gd_okd n x (h.1 x hx)
theorem okd_le : ∀ (n : Nat) (d : D), okd n d = true → okd (n + 1) d = true
  | 0, d, h => by cases d <;> simp_all [okd]
  | n + 1, d, h => by
    cases d <;> simp_all [okd]
    all_goals exact fun x hx => by simpa [okd] using okd_le n x (h x hx)
theorem okd_mono {n m : Nat} {d : D} (h : okd n d = true) (hm : n ≤ m) : okd m d = true := by
  induction hm with
  | refl => exact h
  | step _ ih => exact okd_le _ _ ih
def lawEqM : Nat → List D → M D
  | 0 => fun _ _ => none
  | k + 1 => runS 3 2 false (seqS (ifS (orB (truB (b1 (isiD "list") (vw 1))) (truB (b1 (isiD "tuple") (vw 1))))
  (seqS (ifS (orB (isB (b2 dNe (b1 (isiD "list") (vw 0)) (b1 (isiD "list") (vw 1)))) (isB (b2 dNe (b1 (isiD "tuple") (vw 0)) (b1 (isiD "tuple") (vw 1)))))
  (seqS (retS (cst (.bl false)))
  (nilS []))
  (nilS []))
  (seqS (ifS (isB (b2 dNe (bA aLen (aC (vw 0) aN)) (bA aLen (aC (vw 1) aN))))
  (seqS (retS (cst (.bl false)))
  (nilS []))
  (nilS []))
  (seqS (retS (b2 dEq (lcE (itR1 (bA aLen (aC (vw 1) aN))) (gN 2) (notB (truB (callE (lawEqM k) (aC (b2 dIx (vw 0) (vw 2)) (aC (b2 dIx (vw 1) (vw 2)) aN))))) (vr 2) [2]) (eLst aN)))
  (nilS []))))
  (nilS []))
  (seqS (ifS (isB (b2 dIsN (vw 1) (cst .non)))
  (seqS (retS (b2 dIsN (vw 0) (cst .non)))
  (nilS []))
  (nilS []))
  (seqS (ifS (truB (b1 (isiD "str") (vw 1)))
  (seqS (retS (andV (b1 (isiD "str") (vw 0)) (b2 dEq (vw 0) (vw 1))))
  (nilS []))
  (nilS []))
  (seqS (ifS (truB (b1 (isiD "bool") (vw 1)))
  (seqS (retS (andV (b1 (isiD "bool") (vw 0)) (b2 dEq (vw 0) (vw 1))))
  (nilS []))
  (nilS []))
  (seqS (retS (andV (b1 (isiD "int") (vw 0)) (andV (notV (b1 (isiD "bool") (vw 0))) (b2 dEq (vw 0) (vw 1)))))
  (nilS []))))))
theorem isi_list_non  : isiD "list" .non = some (.bl false) := Eq.symm (by kernel_rfl)
theorem isi_list_bl (b : Bool) : isiD "list" (.bl b) = some (.bl false) := Eq.symm (by kernel_rfl)
theorem isi_list_int (i : Int) : isiD "list" (.int i) = some (.bl false) := Eq.symm (by kernel_rfl)
theorem isi_list_str (x : Str) : isiD "list" (.str x) = some (.bl false) := Eq.symm (by kernel_rfl)
theorem isi_list_tup (ds : List D) : isiD "list" (.tup ds) = some (.bl false) := Eq.symm (by kernel_rfl)
theorem isi_list_lst (ds : List D) : isiD "list" (.lst ds) = some (.bl true) := Eq.symm (by kernel_rfl)
theorem isi_tuple_non  : isiD "tuple" .non = some (.bl false) := Eq.symm (by kernel_rfl)
theorem isi_tuple_bl (b : Bool) : isiD "tuple" (.bl b) = some (.bl false) := Eq.symm (by kernel_rfl)
theorem isi_tuple_int (i : Int) : isiD "tuple" (.int i) = some (.bl false) := Eq.symm (by kernel_rfl)
theorem isi_tuple_str (x : Str) : isiD "tuple" (.str x) = some (.bl false) := Eq.symm (by kernel_rfl)
theorem isi_tuple_tup (ds : List D) : isiD "tuple" (.tup ds) = some (.bl true) := Eq.symm (by kernel_rfl)
theorem isi_tuple_lst (ds : List D) : isiD "tuple" (.lst ds) = some (.bl false) := Eq.symm (by kernel_rfl)
theorem isi_str_non  : isiD "str" .non = some (.bl false) := Eq.symm (by kernel_rfl)
theorem isi_str_bl (b : Bool) : isiD "str" (.bl b) = some (.bl false) := Eq.symm (by kernel_rfl)
theorem isi_str_int (i : Int) : isiD "str" (.int i) = some (.bl false) := Eq.symm (by kernel_rfl)
theorem isi_str_str (x : Str) : isiD "str" (.str x) = some (.bl true) := Eq.symm (by kernel_rfl)
theorem isi_str_tup (ds : List D) : isiD "str" (.tup ds) = some (.bl false) := Eq.symm (by kernel_rfl)
theorem isi_str_lst (ds : List D) : isiD "str" (.lst ds) = some (.bl false) := Eq.symm (by kernel_rfl)
theorem isi_bool_non  : isiD "bool" .non = some (.bl false) := Eq.symm (by kernel_rfl)
theorem isi_bool_bl (b : Bool) : isiD "bool" (.bl b) = some (.bl true) := Eq.symm (by kernel_rfl)
theorem isi_bool_int (i : Int) : isiD "bool" (.int i) = some (.bl false) := Eq.symm (by kernel_rfl)
theorem isi_bool_str (x : Str) : isiD "bool" (.str x) = some (.bl false) := Eq.symm (by kernel_rfl)
theorem isi_bool_tup (ds : List D) : isiD "bool" (.tup ds) = some (.bl false) := Eq.symm (by kernel_rfl)
theorem isi_bool_lst (ds : List D) : isiD "bool" (.lst ds) = some (.bl false) := Eq.symm (by kernel_rfl)
theorem isi_int_non  : isiD "int" .non = some (.bl false) := Eq.symm (by kernel_rfl)
theorem isi_int_bl (b : Bool) : isiD "int" (.bl b) = some (.bl true) := Eq.symm (by kernel_rfl)
theorem isi_int_int (i : Int) : isiD "int" (.int i) = some (.bl true) := Eq.symm (by kernel_rfl)
theorem isi_int_str (x : Str) : isiD "int" (.str x) = some (.bl false) := Eq.symm (by kernel_rfl)
theorem isi_int_tup (ds : List D) : isiD "int" (.tup ds) = some (.bl false) := Eq.symm (by kernel_rfl)
theorem isi_int_lst (ds : List D) : isiD "int" (.lst ds) = some (.bl false) := Eq.symm (by kernel_rfl)
theorem dNe_bl (a b : Bool) : dNe (.bl a) (.bl b) = some (.bl (!(a == b))) := by
  show some (D.bl (!eqD _ _)) = _
  unfold eqD
  rw [toPy, toPy, PyData.eqv]
theorem dEq_nil : dEq (.lst []) (.lst []) = some (.bl true) := rfl
theorem lawEq_sc (n : Nat) (d : D) (h : gd 0 d = true) : lawEqM (n + 1) [d, d] = ret (.bl true) := by
  have hs := dEq_self (okd_mono (gd_okd _ _ h) (by omega : 0 ≤ 60))
  cases d <;> simp only [gd, Bool.false_eq_true] at h
  · simp only [lawEqM, isi_list_non, isi_list_bl, isi_list_int, isi_list_str, isi_list_tup, isi_list_lst, isi_tuple_non, isi_tuple_bl, isi_tuple_int, isi_tuple_str, isi_tuple_tup, isi_tuple_lst, isi_str_non, isi_str_bl, isi_str_int, isi_str_str, isi_str_tup, isi_str_lst, isi_bool_non, isi_bool_bl, isi_bool_int, isi_bool_str, isi_bool_tup, isi_bool_lst, isi_int_non, isi_int_bl, isi_int_int, isi_int_str, isi_int_tup, isi_int_lst, run_r, seq_r, cont_nx, cont_rt, cont_bk, cont_ct, if_r, sel_t, sel_f, ife_r, sele_t, sele_f, and_r, or_r, sela_t, sela_f, selo_t, selo_f, out_rt, out_rtl, out_rtO, out_nx, setD, setO, retS, retO, retV, retN, nilS, fgt, isB, truB, truD, notB, orV, andV, notV, b1, b2, bA, aC, aN, vr, vw, cst, nth, sset, bnd_r, opt_s, cond_true, cond_false, eTup_0, eTup_1, eTup_2, eTup_3, eLst_0, eLst_1, eLst_2, eLst_3, callE, mkE, List.replicate_succ, List.replicate_zero, List.length_cons, List.length_nil, List.length_map, if_true, if_false, Nat.reduceAdd, Nat.reduceSub, Bool.false_and, Bool.and_true, Bool.true_and, Bool.and_false, Bool.not_true, Bool.not_false, Bool.true_or, Bool.or_true, Bool.false_or, Bool.or_false, reduceIte, Bool.false_eq_true, dGt, dLt, dGe, dLe, dCmp, dSub, dNeg, aLen, seqD_tup, seqD_lst, seqD_T, Option.map_some, dIsN, dNotN, isNonD_non, isNonD_bl, isNonD_int, isNonD_str, isNonD_tup, isNonD_lst, isNonD_T, forL_nil, forL_cons, loop_nx, loop_ct, loop_bk, loop_rt, frzS, frzE, appS, parS, hs]
  · simp only [lawEqM, isi_list_non, isi_list_bl, isi_list_int, isi_list_str, isi_list_tup, isi_list_lst, isi_tuple_non, isi_tuple_bl, isi_tuple_int, isi_tuple_str, isi_tuple_tup, isi_tuple_lst, isi_str_non, isi_str_bl, isi_str_int, isi_str_str, isi_str_tup, isi_str_lst, isi_bool_non, isi_bool_bl, isi_bool_int, isi_bool_str, isi_bool_tup, isi_bool_lst, isi_int_non, isi_int_bl, isi_int_int, isi_int_str, isi_int_tup, isi_int_lst, run_r, seq_r, cont_nx, cont_rt, cont_bk, cont_ct, if_r, sel_t, sel_f, ife_r, sele_t, sele_f, and_r, or_r, sela_t, sela_f, selo_t, selo_f, out_rt, out_rtl, out_rtO, out_nx, setD, setO, retS, retO, retV, retN, nilS, fgt, isB, truB, truD, notB, orV, andV, notV, b1, b2, bA, aC, aN, vr, vw, cst, nth, sset, bnd_r, opt_s, cond_true, cond_false, eTup_0, eTup_1, eTup_2, eTup_3, eLst_0, eLst_1, eLst_2, eLst_3, callE, mkE, List.replicate_succ, List.replicate_zero, List.length_cons, List.length_nil, List.length_map, if_true, if_false, Nat.reduceAdd, Nat.reduceSub, Bool.false_and, Bool.and_true, Bool.true_and, Bool.and_false, Bool.not_true, Bool.not_false, Bool.true_or, Bool.or_true, Bool.false_or, Bool.or_false, reduceIte, Bool.false_eq_true, dGt, dLt, dGe, dLe, dCmp, dSub, dNeg, aLen, seqD_tup, seqD_lst, seqD_T, Option.map_some, dIsN, dNotN, isNonD_non, isNonD_bl, isNonD_int, isNonD_str, isNonD_tup, isNonD_lst, isNonD_T, forL_nil, forL_cons, loop_nx, loop_ct, loop_bk, loop_rt, frzS, frzE, appS, parS, hs]
  · simp only [lawEqM, isi_list_non, isi_list_bl, isi_list_int, isi_list_str, isi_list_tup, isi_list_lst, isi_tuple_non, isi_tuple_bl, isi_tuple_int, isi_tuple_str, isi_tuple_tup, isi_tuple_lst, isi_str_non, isi_str_bl, isi_str_int, isi_str_str, isi_str_tup, isi_str_lst, isi_bool_non, isi_bool_bl, isi_bool_int, isi_bool_str, isi_bool_tup, isi_bool_lst, isi_int_non, isi_int_bl, isi_int_int, isi_int_str, isi_int_tup, isi_int_lst, run_r, seq_r, cont_nx, cont_rt, cont_bk, cont_ct, if_r, sel_t, sel_f, ife_r, sele_t, sele_f, and_r, or_r, sela_t, sela_f, selo_t, selo_f, out_rt, out_rtl, out_rtO, out_nx, setD, setO, retS, retO, retV, retN, nilS, fgt, isB, truB, truD, notB, orV, andV, notV, b1, b2, bA, aC, aN, vr, vw, cst, nth, sset, bnd_r, opt_s, cond_true, cond_false, eTup_0, eTup_1, eTup_2, eTup_3, eLst_0, eLst_1, eLst_2, eLst_3, callE, mkE, List.replicate_succ, List.replicate_zero, List.length_cons, List.length_nil, List.length_map, if_true, if_false, Nat.reduceAdd, Nat.reduceSub, Bool.false_and, Bool.and_true, Bool.true_and, Bool.and_false, Bool.not_true, Bool.not_false, Bool.true_or, Bool.or_true, Bool.false_or, Bool.or_false, reduceIte, Bool.false_eq_true, dGt, dLt, dGe, dLe, dCmp, dSub, dNeg, aLen, seqD_tup, seqD_lst, seqD_T, Option.map_some, dIsN, dNotN, isNonD_non, isNonD_bl, isNonD_int, isNonD_str, isNonD_tup, isNonD_lst, isNonD_T, forL_nil, forL_cons, loop_nx, loop_ct, loop_bk, loop_rt, frzS, frzE, appS, parS, hs]
  · simp only [lawEqM, isi_list_non, isi_list_bl, isi_list_int, isi_list_str, isi_list_tup, isi_list_lst, isi_tuple_non, isi_tuple_bl, isi_tuple_int, isi_tuple_str, isi_tuple_tup, isi_tuple_lst, isi_str_non, isi_str_bl, isi_str_int, isi_str_str, isi_str_tup, isi_str_lst, isi_bool_non, isi_bool_bl, isi_bool_int, isi_bool_str, isi_bool_tup, isi_bool_lst, isi_int_non, isi_int_bl, isi_int_int, isi_int_str, isi_int_tup, isi_int_lst, run_r, seq_r, cont_nx, cont_rt, cont_bk, cont_ct, if_r, sel_t, sel_f, ife_r, sele_t, sele_f, and_r, or_r, sela_t, sela_f, selo_t, selo_f, out_rt, out_rtl, out_rtO, out_nx, setD, setO, retS, retO, retV, retN, nilS, fgt, isB, truB, truD, notB, orV, andV, notV, b1, b2, bA, aC, aN, vr, vw, cst, nth, sset, bnd_r, opt_s, cond_true, cond_false, eTup_0, eTup_1, eTup_2, eTup_3, eLst_0, eLst_1, eLst_2, eLst_3, callE, mkE, List.replicate_succ, List.replicate_zero, List.length_cons, List.length_nil, List.length_map, if_true, if_false, Nat.reduceAdd, Nat.reduceSub, Bool.false_and, Bool.and_true, Bool.true_and, Bool.and_false, Bool.not_true, Bool.not_false, Bool.true_or, Bool.or_true, Bool.false_or, Bool.or_false, reduceIte, Bool.false_eq_true, dGt, dLt, dGe, dLe, dCmp, dSub, dNeg, aLen, seqD_tup, seqD_lst, seqD_T, Option.map_some, dIsN, dNotN, isNonD_non, isNonD_bl, isNonD_int, isNonD_str, isNonD_tup, isNonD_lst, isNonD_T, forL_nil, forL_cons, loop_nx, loop_ct, loop_bk, loop_rt, frzS, frzE, appS, parS, hs]
theorem seqc_of {n m : Nat} (ih : ∀ (d : D), gd n d = true → lawEqM m [d, d] = ret (.bl true)) (ds : List D) (ha : ds.all (gd n) = true) : ∀ k ∈ List.range ds.length, atI ds ((0 : Int) + (k : Nat)) = some (ds[k]?.getD .non) ∧ lawEqM m [ds[k]?.getD .non, ds[k]?.getD .non] = ret (.bl true) := by
  intro k hk
  have hk' := List.mem_range.mp hk
  rw [Int.zero_add, atI_lt hk', List.getElem?_eq_getElem hk', Option.getD_some]
  exact ⟨rfl, ih _ (List.all_eq_true.mp ha _ (List.getElem_mem hk'))⟩
theorem rgLen {m : Nat} (h : m ≤ sizeLine) : rgOk (m : Int) = true := by
  rw [sizeLine_eq] at h
  unfold rgOk
  rw [decide_eq_true (by omega), decide_eq_true (by omega)]; rfl
theorem lawEq_tup {n m : Nat} {ds : List D} (ih : ∀ (d : D), gd n d = true → lawEqM m [d, d] = ret (.bl true)) (h : ds.all (gd n) = true ∧ ds.length ≤ sizeLine) : lawEqM (m + 1) [.tup ds, .tup ds] = ret (.bl true) := by
  unfold lawEqM
  simp only [isi_list_non, isi_list_bl, isi_list_int, isi_list_str, isi_list_tup, isi_list_lst, isi_tuple_non, isi_tuple_bl, isi_tuple_int, isi_tuple_str, isi_tuple_tup, isi_tuple_lst, isi_str_non, isi_str_bl, isi_str_int, isi_str_str, isi_str_tup, isi_str_lst, isi_bool_non, isi_bool_bl, isi_bool_int, isi_bool_str, isi_bool_tup, isi_bool_lst, isi_int_non, isi_int_bl, isi_int_int, isi_int_str, isi_int_tup, isi_int_lst, dNe_bl, dNe_int, run_r, seq_r, cont_nx, cont_rt, cont_bk, cont_ct, if_r, sel_t, sel_f, ife_r, sele_t, sele_f, and_r, or_r, sela_t, sela_f, selo_t, selo_f, out_rt, out_rtl, out_rtO, out_nx, setD, setO, retS, retO, retV, retN, nilS, fgt, isB, truB, truD, notB, orV, andV, notV, b1, b2, bA, aC, aN, vr, vw, cst, nth, sset, bnd_r, opt_s, cond_true, cond_false, eTup_0, eTup_1, eTup_2, eTup_3, eLst_0, eLst_1, eLst_2, eLst_3, callE, mkE, List.replicate_succ, List.replicate_zero, List.length_cons, List.length_nil, List.length_map, if_true, if_false, Nat.reduceAdd, Nat.reduceSub, Bool.false_and, Bool.and_true, Bool.true_and, Bool.and_false, Bool.not_true, Bool.not_false, Bool.true_or, Bool.or_true, Bool.false_or, Bool.or_false, reduceIte, Bool.false_eq_true, dGt, dLt, dGe, dLe, dCmp, dSub, dNeg, aLen, seqD_tup, seqD_lst, seqD_T, Option.map_some, dIsN, dNotN, isNonD_non, isNonD_bl, isNonD_int, isNonD_str, isNonD_tup, isNonD_lst, isNonD_T, forL_nil, forL_cons, loop_nx, loop_ct, loop_bk, loop_rt, frzS, frzE, appS, parS, beq_self_eq_true, decide_true]
  rw [lcE_pure (fun k : Nat => D.int ((0 : Int) + k)) (fun _ => none) (List.range ds.length) ?_ (by rw [List.length_range]; exact h.2) fun k hk => ?_]
  · simp only [run_r, seq_r, cont_nx, cont_rt, cont_bk, cont_ct, if_r, sel_t, sel_f, ife_r, sele_t, sele_f, and_r, or_r, sela_t, sela_f, selo_t, selo_f, out_rt, out_rtl, out_rtO, out_nx, setD, setO, retS, retO, retV, retN, nilS, fgt, isB, truB, truD, notB, orV, andV, notV, b1, b2, bA, aC, aN, vr, vw, cst, nth, sset, bnd_r, opt_s, cond_true, cond_false, eTup_0, eTup_1, eTup_2, eTup_3, eLst_0, eLst_1, eLst_2, eLst_3, callE, mkE, List.replicate_succ, List.replicate_zero, List.length_cons, List.length_nil, List.length_map, if_true, if_false, Nat.reduceAdd, Nat.reduceSub, Bool.false_and, Bool.and_true, Bool.true_and, Bool.and_false, Bool.not_true, Bool.not_false, Bool.true_or, Bool.or_true, Bool.false_or, Bool.or_false, reduceIte, Bool.false_eq_true, dGt, dLt, dGe, dLe, dCmp, dSub, dNeg, aLen, seqD_tup, seqD_lst, seqD_T, Option.map_some, dIsN, dNotN, isNonD_non, isNonD_bl, isNonD_int, isNonD_str, isNonD_tup, isNonD_lst, isNonD_T, forL_nil, forL_cons, loop_nx, loop_ct, loop_bk, loop_rt, frzS, frzE, appS, parS, fmn, Nat.zero_le, dEq_nil]
  · have := rgLen h.2
    simp only [itR1, rg1, this, run_r, seq_r, cont_nx, cont_rt, cont_bk, cont_ct, if_r, sel_t, sel_f, ife_r, sele_t, sele_f, and_r, or_r, sela_t, sela_f, selo_t, selo_f, out_rt, out_rtl, out_rtO, out_nx, setD, setO, retS, retO, retV, retN, nilS, fgt, isB, truB, truD, notB, orV, andV, notV, b1, b2, bA, aC, aN, vr, vw, cst, nth, sset, bnd_r, opt_s, cond_true, cond_false, eTup_0, eTup_1, eTup_2, eTup_3, eLst_0, eLst_1, eLst_2, eLst_3, callE, mkE, List.replicate_succ, List.replicate_zero, List.length_cons, List.length_nil, List.length_map, if_true, if_false, Nat.reduceAdd, Nat.reduceSub, Bool.false_and, Bool.and_true, Bool.true_and, Bool.and_false, Bool.not_true, Bool.not_false, Bool.true_or, Bool.or_true, Bool.false_or, Bool.or_false, reduceIte, Bool.false_eq_true, dGt, dLt, dGe, dLe, dCmp, dSub, dNeg, aLen, seqD_tup, seqD_lst, seqD_T, Option.map_some, dIsN, dNotN, isNonD_non, isNonD_bl, isNonD_int, isNonD_str, isNonD_tup, isNonD_lst, isNonD_T, forL_nil, forL_cons, loop_nx, loop_ct, loop_bk, loop_rt, frzS, frzE, appS, parS, upI_eq, Int.toNat_natCast]
  · obtain ⟨e1, e2⟩ := seqc_of ih ds h.1 k hk
    refine ⟨_, rfl, .inl ⟨rfl, ?_⟩⟩
    simp only [run_r, seq_r, cont_nx, cont_rt, cont_bk, cont_ct, if_r, sel_t, sel_f, ife_r, sele_t, sele_f, and_r, or_r, sela_t, sela_f, selo_t, selo_f, out_rt, out_rtl, out_rtO, out_nx, setD, setO, retS, retO, retV, retN, nilS, fgt, isB, truB, truD, notB, orV, andV, notV, b1, b2, bA, aC, aN, vr, vw, cst, nth, sset, bnd_r, opt_s, cond_true, cond_false, eTup_0, eTup_1, eTup_2, eTup_3, eLst_0, eLst_1, eLst_2, eLst_3, callE, mkE, List.replicate_succ, List.replicate_zero, List.length_cons, List.length_nil, List.length_map, if_true, if_false, Nat.reduceAdd, Nat.reduceSub, Bool.false_and, Bool.and_true, Bool.true_and, Bool.and_false, Bool.not_true, Bool.not_false, Bool.true_or, Bool.or_true, Bool.false_or, Bool.or_false, reduceIte, Bool.false_eq_true, dGt, dLt, dGe, dLe, dCmp, dSub, dNeg, aLen, seqD_tup, seqD_lst, seqD_T, Option.map_some, dIsN, dNotN, isNonD_non, isNonD_bl, isNonD_int, isNonD_str, isNonD_tup, isNonD_lst, isNonD_T, forL_nil, forL_cons, loop_nx, loop_ct, loop_bk, loop_rt, frzS, frzE, appS, parS, dIx, e1, e2]
theorem lawEq_lst {n m : Nat} {ds : List D} (ih : ∀ (d : D), gd n d = true → lawEqM m [d, d] = ret (.bl true)) (h : ds.all (gd n) = true ∧ ds.length ≤ sizeLine) : lawEqM (m + 1) [.lst ds, .lst ds] = ret (.bl true) := by
  unfold lawEqM
  simp only [isi_list_non, isi_list_bl, isi_list_int, isi_list_str, isi_list_tup, isi_list_lst, isi_tuple_non, isi_tuple_bl, isi_tuple_int, isi_tuple_str, isi_tuple_tup, isi_tuple_lst, isi_str_non, isi_str_bl, isi_str_int, isi_str_str, isi_str_tup, isi_str_lst, isi_bool_non, isi_bool_bl, isi_bool_int, isi_bool_str, isi_bool_tup, isi_bool_lst, isi_int_non, isi_int_bl, isi_int_int, isi_int_str, isi_int_tup, isi_int_lst, dNe_bl, dNe_int, run_r, seq_r, cont_nx, cont_rt, cont_bk, cont_ct, if_r, sel_t, sel_f, ife_r, sele_t, sele_f, and_r, or_r, sela_t, sela_f, selo_t, selo_f, out_rt, out_rtl, out_rtO, out_nx, setD, setO, retS, retO, retV, retN, nilS, fgt, isB, truB, truD, notB, orV, andV, notV, b1, b2, bA, aC, aN, vr, vw, cst, nth, sset, bnd_r, opt_s, cond_true, cond_false, eTup_0, eTup_1, eTup_2, eTup_3, eLst_0, eLst_1, eLst_2, eLst_3, callE, mkE, List.replicate_succ, List.replicate_zero, List.length_cons, List.length_nil, List.length_map, if_true, if_false, Nat.reduceAdd, Nat.reduceSub, Bool.false_and, Bool.and_true, Bool.true_and, Bool.and_false, Bool.not_true, Bool.not_false, Bool.true_or, Bool.or_true, Bool.false_or, Bool.or_false, reduceIte, Bool.false_eq_true, dGt, dLt, dGe, dLe, dCmp, dSub, dNeg, aLen, seqD_tup, seqD_lst, seqD_T, Option.map_some, dIsN, dNotN, isNonD_non, isNonD_bl, isNonD_int, isNonD_str, isNonD_tup, isNonD_lst, isNonD_T, forL_nil, forL_cons, loop_nx, loop_ct, loop_bk, loop_rt, frzS, frzE, appS, parS, beq_self_eq_true, decide_true]
  rw [lcE_pure (fun k : Nat => D.int ((0 : Int) + k)) (fun _ => none) (List.range ds.length) ?_ (by rw [List.length_range]; exact h.2) fun k hk => ?_]
  · simp only [run_r, seq_r, cont_nx, cont_rt, cont_bk, cont_ct, if_r, sel_t, sel_f, ife_r, sele_t, sele_f, and_r, or_r, sela_t, sela_f, selo_t, selo_f, out_rt, out_rtl, out_rtO, out_nx, setD, setO, retS, retO, retV, retN, nilS, fgt, isB, truB, truD, notB, orV, andV, notV, b1, b2, bA, aC, aN, vr, vw, cst, nth, sset, bnd_r, opt_s, cond_true, cond_false, eTup_0, eTup_1, eTup_2, eTup_3, eLst_0, eLst_1, eLst_2, eLst_3, callE, mkE, List.replicate_succ, List.replicate_zero, List.length_cons, List.length_nil, List.length_map, if_true, if_false, Nat.reduceAdd, Nat.reduceSub, Bool.false_and, Bool.and_true, Bool.true_and, Bool.and_false, Bool.not_true, Bool.not_false, Bool.true_or, Bool.or_true, Bool.false_or, Bool.or_false, reduceIte, Bool.false_eq_true, dGt, dLt, dGe, dLe, dCmp, dSub, dNeg, aLen, seqD_tup, seqD_lst, seqD_T, Option.map_some, dIsN, dNotN, isNonD_non, isNonD_bl, isNonD_int, isNonD_str, isNonD_tup, isNonD_lst, isNonD_T, forL_nil, forL_cons, loop_nx, loop_ct, loop_bk, loop_rt, frzS, frzE, appS, parS, fmn, Nat.zero_le, dEq_nil]
  · have := rgLen h.2
    simp only [itR1, rg1, this, run_r, seq_r, cont_nx, cont_rt, cont_bk, cont_ct, if_r, sel_t, sel_f, ife_r, sele_t, sele_f, and_r, or_r, sela_t, sela_f, selo_t, selo_f, out_rt, out_rtl, out_rtO, out_nx, setD, setO, retS, retO, retV, retN, nilS, fgt, isB, truB, truD, notB, orV, andV, notV, b1, b2, bA, aC, aN, vr, vw, cst, nth, sset, bnd_r, opt_s, cond_true, cond_false, eTup_0, eTup_1, eTup_2, eTup_3, eLst_0, eLst_1, eLst_2, eLst_3, callE, mkE, List.replicate_succ, List.replicate_zero, List.length_cons, List.length_nil, List.length_map, if_true, if_false, Nat.reduceAdd, Nat.reduceSub, Bool.false_and, Bool.and_true, Bool.true_and, Bool.and_false, Bool.not_true, Bool.not_false, Bool.true_or, Bool.or_true, Bool.false_or, Bool.or_false, reduceIte, Bool.false_eq_true, dGt, dLt, dGe, dLe, dCmp, dSub, dNeg, aLen, seqD_tup, seqD_lst, seqD_T, Option.map_some, dIsN, dNotN, isNonD_non, isNonD_bl, isNonD_int, isNonD_str, isNonD_tup, isNonD_lst, isNonD_T, forL_nil, forL_cons, loop_nx, loop_ct, loop_bk, loop_rt, frzS, frzE, appS, parS, upI_eq, Int.toNat_natCast]
  · obtain ⟨e1, e2⟩ := seqc_of ih ds h.1 k hk
    refine ⟨_, rfl, .inl ⟨rfl, ?_⟩⟩
    simp only [run_r, seq_r, cont_nx, cont_rt, cont_bk, cont_ct, if_r, sel_t, sel_f, ife_r, sele_t, sele_f, and_r, or_r, sela_t, sela_f, selo_t, selo_f, out_rt, out_rtl, out_rtO, out_nx, setD, setO, retS, retO, retV, retN, nilS, fgt, isB, truB, truD, notB, orV, andV, notV, b1, b2, bA, aC, aN, vr, vw, cst, nth, sset, bnd_r, opt_s, cond_true, cond_false, eTup_0, eTup_1, eTup_2, eTup_3, eLst_0, eLst_1, eLst_2, eLst_3, callE, mkE, List.replicate_succ, List.replicate_zero, List.length_cons, List.length_nil, List.length_map, if_true, if_false, Nat.reduceAdd, Nat.reduceSub, Bool.false_and, Bool.and_true, Bool.true_and, Bool.and_false, Bool.not_true, Bool.not_false, Bool.true_or, Bool.or_true, Bool.false_or, Bool.or_false, reduceIte, Bool.false_eq_true, dGt, dLt, dGe, dLe, dCmp, dSub, dNeg, aLen, seqD_tup, seqD_lst, seqD_T, Option.map_some, dIsN, dNotN, isNonD_non, isNonD_bl, isNonD_int, isNonD_str, isNonD_tup, isNonD_lst, isNonD_T, forL_nil, forL_cons, loop_nx, loop_ct, loop_bk, loop_rt, frzS, frzE, appS, parS, dIx, e1, e2]
theorem lawEq_ok : ∀ (n : Nat) (d : D), gd n d = true → lawEqM (n + 1) [d, d] = ret (.bl true) := by
  intro n
  induction n with
  | zero => exact fun d h => lawEq_sc 0 d h
  | succ n ih =>
    intro d h
    cases d with
    | tup ds => exact lawEq_tup ih (by simpa [gd] using h)
    | lst ds => exact lawEq_lst ih (by simpa [gd] using h)
    | non => exact lawEq_sc _ _ rfl
    | bl b => exact lawEq_sc _ _ rfl
    | int i => exact lawEq_sc _ _ rfl
    | str x => exact lawEq_sc _ _ h
    | dic kv => cases h
    | tok => cases h
theorem gd_le : ∀ (n : Nat) (d : D), gd n d = true → gd (n + 1) d = true
  | 0, d, h => by cases d <;> simp_all [gd]
  | n + 1, d, h => by
    cases d <;> simp_all [gd]
    all_goals exact fun x hx => by simpa [gd] using gd_le n x (h.1 x hx)
theorem gd_mono {n m : Nat} {d : D} (h : gd n d = true) (hm : n ≤ m) : gd m d = true := by
  induction hm with
  | refl => exact h
  | step _ ih => exact gd_le _ _ ih
theorem lawEq60 {d : D} (h : gd 59 d = true) : lawEqM 60 [d, d] = ret (.bl true) := lawEq_ok 59 d h
theorem gdT {p : List Int} (h : p.length ≤ sizeLine) : gd 59 (T p) = true := by
  simp [gd, T, h]
end FL
end
section
set_option maxHeartbeats 4000000
/-! FL: tuple * int of all sizes; sorted by reverse. -/
namespace FL
open PySem PySem.Spec PyProof.Rows L2
theorem tup_mul_same (l : Addr) (items : Array Value) (n : Nat) (dd : Option Addr) (sl : Array (Option Value)) (x : Int) (u : Tok) (c0 : (decide (x < -(2 ^ 63)) || decide (x ≥ 2 ^ 63)) = false) (c1 : (items.isEmpty || x == 1) = true) :
    Meets (Builtin.«tuple.__mul__» ⟨[.ref l, .int x u], []⟩) (fun _ R s => s.heap.get? l = some { cls := .type "tuple", dict := dd, data := .seq items n, slots := sl } ∧ R (.ok (.ret (Value.ref l))) s) :=
  .of_wp fun prog w A R s h => by
    obtain ⟨hp, g, d, tk, os⟩ := s
    obtain ⟨hl, h⟩ := h
    have f1 := AutoSeq1.idx_int
    wp_walk using wpAny_loadPart' hl
    refine wpAny_ite_false (decide_eq_false (by rw [c0]; exact Bool.false_ne_true)) ?_
    wp_walk using wpAny_loadPart' hl
    exact ⟨_, rfl, h⟩
theorem tup_mul_zero (l : Addr) (items : Array Value) (n : Nat) (dd : Option Addr) (sl : Array (Option Value)) (x : Int) (u : Tok) (c0 : (decide (x < -(2 ^ 63)) || decide (x ≥ 2 ^ 63)) = false) (c1 : (items.isEmpty || x == 1) = false) (c2 : (decide (x ≤ 0) || items.isEmpty) = true) :
    Meets (Builtin.«tuple.__mul__» ⟨[.ref l, .int x u], []⟩) (fun _ R s => s.heap.get? l = some { cls := .type "tuple", dict := dd, data := .seq items n, slots := sl } ∧
      R (.ok (.ret (Value.ref s.heap.objs.size))) { s with heap := s.heap.push { cls := Value.type "tuple", data := Data.seq #[] }, toks := s.toks }) :=
  .of_wp fun prog w A R s h => by
    obtain ⟨hp, g, d, tk, os⟩ := s
    obtain ⟨hl, h⟩ := h
    have f1 := AutoSeq1.idx_int
    wp_walk using wpAny_loadPart' hl
    repeat (first
      | (refine wpAny_ite_false (decide_eq_false (by rw [c0]; exact Bool.false_ne_true)) ?_; wp_walk using wpAny_loadPart' hl)
      | (refine wpAny_ite_false (decide_eq_false (by rw [c1]; exact Bool.false_ne_true)) ?_; wp_walk using wpAny_loadPart' hl)
      | (refine wpAny_ite_true (decide_eq_true c2) ?_; wp_walk using wpAny_loadPart' hl))
    exact ⟨_, rfl, h⟩
def rRepT1 (K : PySem.W.Frag) : R2 := fun x y H Q => ∃ l k xs, x = .ref l ∧ y = .int k ∧ SqT K H l xs ∧ (xs = [] ∨ k = 1) ∧ -(2 ^ 63) ≤ k ∧ k < 2 ^ 63 ∧ Q (.ref l) H
def rRepT0 (K : PySem.W.Frag) : R2 := fun x y H Q => ∃ l k xs, x = .ref l ∧ y = .int k ∧ SqT K H l xs ∧ xs ≠ [] ∧ -(2 ^ 63) ≤ k ∧ k ≤ 0 ∧ ∀ p, H p = none → Q (.ref p) (upd H p (.tup []))
section
variable {X : Cx}
theorem op_repT1 : OpR X (binaryOp .Mult) (rRepT1 X.K) := by
  intro pins s σ H x y v u Q I rx ry h
  obtain ⟨l, k, xs, rfl, rfl, hT, h1, h2, h3, q⟩ := h
  cases rx
  obtain ⟨t, rfl⟩ := ry
  obtain ⟨its, r, ⟨⟨cls, dd, data, sl⟩, ho, hc, n, hd⟩, hs⟩ := I.tuple hT
  simp only at hc hd
  subst hc hd
  have c0 : (decide (k < -(2 ^ 63)) || decide (k ≥ 2 ^ 63)) = false := by
    rw [decide_eq_false (by omega), decide_eq_false (by omega)] <;> rfl
  have c1 : (its.toArray.isEmpty || k == 1) = true := by
    rcases h1 with h1 | h1
    · subst h1
      have : its = [] := List.eq_nil_of_length_eq_zero r.length.symm
      subst this; rfl
    · subst h1; simp
  refine wpAny_binaryOp_repeat_ref (T := "tuple") (U := "int") (by decide) ⟨_, ho, rfl⟩ (fun s' => typeIs_int s' k t) noFill_tuple_mul F.fills_int_mul F.slot_int_rmul repeat_tuple F.slot_int_index.lookup
    (call_meets F.slot_int_rmul (typeIs_int s k t) F.entry_int_rmul (F.args_int_rmul_2 _ _) (int_rmul_tuple k t l its.toArray n dd sl)
      ⟨ho, rfl, ⟨_, ho, rfl⟩, call_meets F.slot_tuple_mul ⟨_, ho, rfl⟩ F.entry_tuple_mul (F.args_tuple_mul_2 _ _) (tup_mul_same l its.toArray n dd sl k t c0 c1) ⟨ho, ?_⟩⟩)
  exact ⟨.ref l, H, I, rfl, q⟩
theorem op_repT0 : OpR X (binaryOp .Mult) (rRepT0 X.K) := by
  intro pins s σ H x y v u Q I rx ry h
  obtain ⟨l, k, xs, rfl, rfl, hT, hne, h2, h3, q⟩ := h
  cases rx
  obtain ⟨t, rfl⟩ := ry
  obtain ⟨its, r, ⟨⟨cls, dd, data, sl⟩, ho, hc, n, hd⟩, hs⟩ := I.tuple hT
  simp only at hc hd
  subst hc hd
  have hle : its.length = xs.length := r.length.symm
  have hn : its ≠ [] := fun e => hne (by
    rw [e] at hle
    exact List.eq_nil_of_length_eq_zero hle.symm)
  have hi : its.toArray.isEmpty = false := by
    cases its with
    | nil => exact absurd rfl hn
    | cons a b => rfl
  have c0 : (decide (k < -(2 ^ 63)) || decide (k ≥ 2 ^ 63)) = false := by
    rw [decide_eq_false (by omega), decide_eq_false (by omega)] <;> rfl
  have c1 : (its.toArray.isEmpty || k == 1) = false := by
    rw [hi, Bool.false_or]
    exact beq_eq_false_iff_ne.mpr (by omega)
  have c2 : (decide (k ≤ 0) || its.toArray.isEmpty) = true := by
    rw [decide_eq_true h3]; rfl
  refine wpAny_binaryOp_repeat_ref (T := "tuple") (U := "int") (by decide) ⟨_, ho, rfl⟩ (fun s' => typeIs_int s' k t) noFill_tuple_mul F.fills_int_mul F.slot_int_rmul repeat_tuple F.slot_int_index.lookup
    (call_meets F.slot_int_rmul (typeIs_int s k t) F.entry_int_rmul (F.args_int_rmul_2 _ _) (int_rmul_tuple k t l its.toArray n dd sl)
      ⟨ho, rfl, ⟨_, ho, rfl⟩, call_meets F.slot_tuple_mul ⟨_, ho, rfl⟩ F.entry_tuple_mul (F.args_tuple_mul_2 _ _) (tup_mul_zero l its.toArray n dd sl k t c0 c1 c2) ⟨ho, ?_⟩⟩)
  refine ⟨.ref s.heap.objs.size, _, I.laid (t' := s.toks) (o := .tup []) (fun b ob q => Heap.get?_push_of_some _ q) (Nat.le_refl _) ?_, rfl, q _ (I.hok.fresh (Nat.le_refl _))⟩
  exact ⟨Nat.zero_le _, [], .nil, IsTup.new _ _⟩
end
def dMulT : D → D → Option D
  | .tup ds, .int k => if (decide (ds.length ≤ 1000) && decide (k ≤ 1000) && decide (-(2 ^ 63) ≤ k)) = true then some (.tup (List.replicate k.toNat ds).flatten) else none
  | _, _ => none
def rMulT (K : PySem.W.Frag) : R2 := fun x y H Q => rRepT1 K x y H Q ∨ (rRepT0 K x y H Q ∨ rRepT K x y H Q)
theorem op_mulT {X : Cx} : OpR X (binaryOp .Mult) (rMulT X.K) := op_repT1.or (op_repT0.or op_repT)
theorem flat_nil {α : Type} : ∀ n : Nat, (List.replicate n ([] : List α)).flatten = []
  | 0 => rfl
  | n + 1 => by rw [List.replicate_succ, List.flatten_cons, flat_nil n]; rfl
theorem mulT_pure {K : PySem.W.Frag} : Pure2 K (rMulT K) dMulT := by
  intro q F H ω x y a b d Q hs ho hx hy e k
  cases a <;> cases b <;> simp only [dMulT, reduceCtorEq] at e
  rename_i ds i
  split at e
  · rename_i h
    simp only [Bool.and_eq_true, decide_eq_true_eq] at h
    cases e
    have hx' := hx.rep_of (fun p h => h)
    obtain ⟨p, vs, rfl, h1, r1⟩ := hx.tup hs
    cases hy.int
    have hl := r1.length
    by_cases c1 : vs = [] ∨ i = 1
    · refine .inl ⟨p, i, vs, rfl, rfl, h1, c1, by omega, by omega, k F H _ (.mk0 hs ho) ?_⟩
      rcases c1 with c1 | c1
      · subst c1
        cases r1
        rw [flat_nil]; exact hx'
      · subst c1
        show Rep K q F (.ref p) (.tup (List.replicate 1 ds).flatten)
        rw [List.replicate_one, List.flatten_cons, List.flatten_nil, List.append_nil]; exact hx'
    · by_cases c2 : i ≤ 0
      · refine .inr (.inl ⟨p, i, vs, rfl, rfl, h1, fun z => c1 (.inl z), by omega, c2, fun z hz => ?_⟩)
        have e0 : i.toNat = 0 := by omega
        rw [e0] at k
        exact k _ _ _ (Post.alloc hs ho hz) (.tup upd_same .nil)
      · refine .inr (.inr ⟨p, i, vs, rfl, rfl, h1, fun z => c1 (.inl z), by omega, h.1.2, by omega, fun z hz => ?_⟩)
        exact k _ _ _ (Post.alloc hs ho hz) (.tup upd_same ((r1.rep _).mono (same_new (same_none hs hz))))
  · cases e
end FL
end
section
set_option maxHeartbeats 4000000
/-! FL: sorted by reverse, of lists and tuples of ints. -/
namespace FL
open PySem PySem.Spec PyProof.Rows L2
section
variable {prog : Program} {w : World} {A : Around} {E : Value → Shared → Prop} {s : Shared}
theorem sorted_tupK {l : Addr} {vs : List Value} {b : Bool} {kw : List (Str × Value)} {ltv : Value → Value → Bool} {Q : Value → Shared → Prop} (hk : ∀ a, Builtin.«list.sort» ⟨[.ref a], kw⟩ = Builtin.«list.sort» ⟨[.ref a], [(Str.ofString "reverse", .bool b)]⟩)
    (ha1 : argsOk "sorted" ⟨[.ref l], kw⟩) (ha2 : ∀ a, argsOk "list.sort" ⟨[a], kw⟩) (O : SrtO.Swo ltv) (hl : s.heap.IsTuple l vs.toArray) (hz : vs.length ≤ sizeLine)
    (hS : 2 ≤ vs.length → ∀ (h₁ : Heap) (a : Addr), h₁.get? a = some (seqObj "list" vs.toArray 0) → (∀ b o, s.heap.get? b = some o → b ≠ a ∧ h₁.get? b = some o) → SrtO.SortableO prog w A.in1.in1 { s with heap := h₁ } a vs ltv)
    (h : ∀ out : List Value, SrtO.Srtd ltv out → SrtO.Stb ltv out (if b = true then vs.reverse else vs) → Q (.ref (s.heap.objs.size + 1)) { s with heap := sortedAll s.heap vs (if b = true then out.toArray.reverse else out.toArray) }) :
    wpAny (model prog w) A (call (.builtin "sorted") [.ref l] kw) Q E s := by
  refine call_function_entry_kw PyProof.Rows.kind_sorted PyProof.Rows.plain_sorted PyProof.Rows.entry_sorted ha1 ?_
  unfold Builtin.«sorted»
  refine wpAny_bind (m := checkCount "sorted" 1 1 _) (wpAny_pure ?_)
  refine wpAny_bind (FL.collect_tuple hl ?_ hz)
  refine wpAny_bind (wpAny_newList ?_ hz)
  have z1 : ((s.heap.push (seqObj "list" #[] 0)).update s.heap.objs.size (Obj.mapSeq (· ++ vs.toArray))).objs.size = s.heap.objs.size + 1 := by rw [Heap.size_update, size_push']
  have z2 : (((s.heap.push (seqObj "list" #[] 0)).update s.heap.objs.size (Obj.mapSeq (· ++ vs.toArray))).push (seqObj "list" vs.toArray 0)).get? (s.heap.objs.size + 1) = some (seqObj "list" vs.toArray 0) := by rw [← z1]; exact Heap.get?_push_size _ rfl
  have z3 : ∀ b o, s.heap.get? b = some o → b ≠ s.heap.objs.size + 1 ∧ (((s.heap.push (seqObj "list" #[] 0)).update s.heap.objs.size (Obj.mapSeq (· ++ vs.toArray))).push (seqObj "list" vs.toArray 0)).get? b = some o := fun b o q => ⟨Nat.ne_of_lt (Nat.lt_succ_of_lt (Heap.lt_size q)), Heap.get?_push_of_some _ (by rw [Heap.get?_update_ne _ _ _ _ (Nat.ne_of_lt (Heap.lt_size q))]; exact Heap.get?_push_of_some _ q)⟩
  show wpAny _ _ _ _ _ { s with heap := ((s.heap.push (seqObj "list" #[] 0)).update s.heap.objs.size (Obj.mapSeq (· ++ vs.toArray))).push (seqObj "list" vs.toArray 0) }
  rw [z1]
  refine wpAny_bind (wpAny_holding (wpAny_call_entry_kw PyProof.Rows.slot_list_sort ⟨_, z2, rfl⟩ PyProof.Rows.entry_list_sort ?_ (ha2 _)))
  rw [hk]
  exact SrtR.list_sort_ordR O z2 hz (fun h2 => hS h2 _ _ z2 z3) fun out hs hb => ⟨_, rfl, wpAny_pure ⟨_, rfl, h out hs hb⟩⟩
end
section
variable {X : Cx}
def rSortRT (K : PySem.W.Frag) : List V → List V → Hp → VK → Prop := fun vs zs H Q => ∃ (a : Addr) (ns : List Int), vs = [V.ref a] ∧ zs = [.bl true] ∧ SqT K H a (ns.map V.int) ∧
  ∀ (ns' : List Int) (p : Addr), ns'.Perm ns → OrdB true ns' → H p = none → Q (.ref p) (upd H p (.lst (ns'.map V.int)))
theorem cr_sortRT : CallRK X (.builtin "sorted") [Str.ofString "reverse"] (rSortRT X.K) := by
  intro pins s σ H vs zs us ws Q I r rz h
  obtain ⟨a, ns, rfl, rfl, hs, q⟩ := h
  obtain rfl := Vals.ref1 r
  obtain ⟨w1, rfl, e1⟩ := vals1 rz
  obtain rfl : w1 = Value.bool true := e1
  obtain ⟨its, rv, hl, hz⟩ := I.tuple hs
  have hi := rv.ints
  refine sorted_tupK (fun _ => rfl) (PyProof.Rows.args_sorted_rev _ _) (fun _ => PyProof.Rows.args_list_sort_rev _ _) SrtO.swo_int (show s.heap.IsTuple a its.toArray from hl) (by rw [← rv.length]; exact hz) (fun h2 h₁ a' _ _ => SrtO.ints_sortable hi h2) fun out h1 h2 => ?_
  obtain ⟨ns', k1, k2, k3⟩ := SrtR.ints_outR hi h1 h2
  obtain ⟨ep, he'⟩ := PyProof.Rows.sortedAll_at s.heap its (if (true : Bool) = true then out.toArray.reverse else out.toArray)
  have hlen : (ns'.map V.int).length ≤ sizeLine := by
    rw [List.length_map, k2.length_eq]
    rw [List.length_map] at hz
    exact hz
  have e0 : ((if (true : Bool) = true then out.toArray.reverse else out.toArray).toList).toArray = (if (true : Bool) = true then out.toArray.reverse else out.toArray) := by rw [Array.toArray_toList]
  exact ⟨.ref _, upd H (s.heap.objs.size + 1) (.lst (ns'.map V.int)), I.laid (t' := s.toks) (fun _ _ => PyProof.Rows.sortedAll_old) (Nat.le_succ _) ⟨hlen, _, ep, vals_of_ints k1, by rw [e0]; exact he'⟩, rfl, q _ _ k2 k3 (I.hok.fresh (Nat.le_succ _))⟩
theorem CallRK.or {f : Value} {ks : List Str} {r1 r2 : List V → List V → Hp → VK → Prop} (h1 : CallRK X f ks r1) (h2 : CallRK X f ks r2) : CallRK X f ks (fun vs zs H Q => r1 vs zs H Q ∨ r2 vs zs H Q) := by
  intro pins s σ H vs zs us ws Q I r rz h
  rcases h with h | h
  · exact h1 pins s σ H vs zs us ws Q I r rz h
  · exact h2 pins s σ H vs zs us ws Q I r rz h
def dSortR (d : D) : Option D := (intsD d).map fun ns => .lst ((srtI ns).reverse.map .int)
theorem sortedR_uniq {l m : List Int} (h : l.Perm m) (h1 : OrdB true l) : l = (srtI m).reverse := by
  have h1' : l.reverse.Pairwise (· ≤ ·) := by rw [List.pairwise_reverse]; exact h1
  rw [← sorted_uniq ((List.reverse_perm l).trans (h.trans (srtI_perm m).symm)) h1' (srtI_sorted m), List.reverse_reverse]
variable {e : Expr} {f : EF} {p pos kp p2 : Pos} {k : Nat}
theorem f_sortR (hm : X.mg "sorted" = none) (he : PE X e (tB X.K f)) (hg : Gl X "sorted" := by rfl) (hv : bootBuiltins "sorted" = some (.builtin "sorted") := by first | assumption | decide +kernel)
    (hs : starEach [e] X.env = (false, eval e X.env) :: starEach [] X.env := by rfl) (hb : backTo pos (starEach [e] X.env) = (false, eval e X.env) :: backTo pos (starEach [] X.env) := by rfl) (hpl : (backTo pos (starEach [e] X.env)).any (·.1) = false := by rfl) :
    PE X (.Call (.Name "sorted" p) [e] [⟨some "reverse", .Constant (.bool true) k p2, kp⟩] pos) (tF X.K (b1 dSortR f)) :=
  pe_weak (pe_callBK (CallRK.or cr_sortedRev cr_sortRT) hg hm hv (pa_cons he pa_nil hs) (pk_cons pe_bl pk_nil) (by decide) (by decide) hb hpl) fun σ H Q ⟨c, F, ρ, ω, d, ω', w, e, q⟩ => by
    obtain ⟨x, ω1, e1, e⟩ := bnd_some e
    obtain ⟨e4, rfl⟩ := opt_some e
    refine ⟨c, F, ρ, ω, x, _, w, e1, fun F1 H1 v p1 r1 => ?_⟩
    unfold dSortR at e4
    rw [Option.map_eq_some_iff] at e4
    obtain ⟨ns, e5, rfl⟩ := e4
    have fin : ∀ (ns' : List Int) (p : Addr), ns'.Perm ns → OrdB true ns' → H1 p = none → Q (.ref p) (upd H1 p (.lst (ns'.map V.int))) := fun ns' t h1 h2 ht => by
      rw [sortedR_uniq h1 h2]
      exact q _ _ _ (p1.trans (Post.fresh p1.le p1.ora ht)) (none_back p1 ht) (same_none p1.le ht) ⟨_, upd_same, reps_ints _⟩
    rcases intsD_some e5 with rfl | rfl
    · obtain ⟨p, vs, rfl, h1, r⟩ := r1.lst p1.le
      cases r.ints
      exact .inl ⟨p, ns, rfl, rfl, .inl (.inl h1), fin⟩
    · obtain ⟨p, vs, rfl, h1, r⟩ := r1.tup p1.le
      cases r.ints
      exact .inr ⟨p, ns, rfl, rfl, h1, fin⟩
end
end FL
end
section
set_option maxHeartbeats 1000000
/-! FL: a[i] op= e on an own list. -/
namespace FL
open PySem PySem.Spec PyProof.Rows L2
def getIO : SV → D → Option D
  | .o (.lst ds), .int j => atI ds j
  | _, _ => none
theorem getIO_some {x : SV} {k d : D} (h : getIO x k = some d) : ∃ ds j, x = .o (.lst ds) ∧ k = .int j ∧ atI ds j = some d := by
  unfold getIO at h
  split at h
  · exact ⟨_, _, rfl, rfl, h⟩
  · cases h
def augIS (i : Nat) (o : D → D → Option D) (f g : EF) : SF := fun ρ => bnd (f ρ) fun k => bnd (opt (getIO (nth ρ i) k)) fun x => bnd (g ρ) fun y => bnd (opt (o x y)) fun z => bnd (opt (setIO (nth ρ i) k z)) fun l => ret (.nx (sset ρ i (.o l)))
section
variable {X : Cx} {e : Expr} {f g : EF} {pos : Pos}
theorem pget_list : PGet X (rIxL X.K) := by
  intro pins s σ H x y v u Q I rx ry h
  obtain ⟨p, xs, i, z, rfl, rfl, hq, he, q⟩ := h
  cases rx
  obtain ⟨t, rfl⟩ := ry
  obtain ⟨its, r, pl, hz⟩ := I.list hq
  obtain ⟨j, g1, g2, g3, g4, g5⟩ := atI_get he
  obtain ⟨w', ew, rw'⟩ := r.get g2
  have hl := r.length
  have hn := line63
  by_cases h0 : 0 ≤ i
  · have hj : i.toNat = j := by
      rw [seqIndex_of h0 g5] at g1
      exact Option.some.inj g1
    exact wpAny_getItem_list pl.isList h0 (by omega) (by rw [hj]; simpa using ew) ⟨z, H, I, rw', q⟩
  · have hj : (i + (its.toArray.size : Int)).toNat = j := by
      rw [seqIndex_neg (by omega) g4] at g1
      rw [List.size_toArray, ← hl]
      exact Option.some.inj g1
    exact wpAny_getItem_list_neg pl.isList (by omega) (by rw [List.size_toArray] <;> omega) (by omega) (by rw [hj]; simpa using ew) ⟨z, H, I, rw', q⟩
theorem s_augI (i : Nat) {op : Operator} {t : TIp} {o : D → D → Option D} (hp : PIp X op t) (hr : Pure2 X.K t o) {ob ix : Expr} {p2 : Pos} (ho : PE X ob (tVar i)) (hi : PE X ix (tB X.K f)) (he : PE X e (tB X.K g))
    (ha : ∀ ov iv new, augStore ix ov iv new = (do holding [new, ov, iv] (setItem ov iv new); release [new, ov, iv] []; pure .next) := by intros; rfl) :
    PS X (.AugAssign (.Subscript ob ix p2) op e pos) (tS X.K (augIS i o f g)) := ps_weak (ps_augS ho hi pget_list he hp set_list ha) fun D σ H ⟨c, F, ρ, ω, oo, ω', w, e, k⟩ => by
  obtain ⟨kx, ω1, e1, a1⟩ := bnd_some e
  obtain ⟨x, ω2, e2, a2⟩ := bnd_some a1
  obtain ⟨e2', rfl⟩ := opt_some e2
  obtain ⟨y, ω3, e3, a3⟩ := bnd_some a2
  obtain ⟨z, ω4, e4, a4⟩ := bnd_some a3
  obtain ⟨e4', rfl⟩ := opt_some e4
  obtain ⟨l, ω5, e5, a5⟩ := bnd_some a4
  obtain ⟨e5', rfl⟩ := opt_some e5
  obtain ⟨rfl, rfl⟩ := ret_some a5
  obtain ⟨ds, j, hn, rfl, hx⟩ := getIO_some e2'
  obtain ⟨ds2, j2, n, hn2, hj2, hz, rfl⟩ := setIO_some e5'
  rw [hn] at hn2
  cases hn2
  cases hj2
  obtain ⟨p, h1, h2⟩ := w.ow i _ hn
  obtain ⟨vs, hv, r⟩ := h2.r
  refine ⟨_, h1, c, F, ρ, ω, _, _, w, e1, fun F1 H1 u p1 r1 => ?_⟩
  cases r1.int
  have hv1 : H1 p = some (.lst vs) := p1.kept _ _ hv h2.qf
  have rr := r.mono p1.le0
  have hx' : ∃ v, atI vs j = some v ∧ Rep X.K c.q F1 v x := by
    unfold atI at hx ⊢
    rw [r.length]
    cases e : ixN ds.length j with
    | none => rw [e] at hx; cases hx
    | some m =>
      rw [e] at hx
      exact rr.get hx
  obtain ⟨v, hv2, rv⟩ := hx'
  refine ⟨p, vs, j, v, rfl, rfl, SqL.of hv1, hv2, ?_⟩
  refine ⟨c, F1, ρ, _, y, _, w.ext p1, e3, fun F2 H2 u2 p2 r2 => ?_⟩
  refine hr c.q F2 H2 _ v u2 x y z _ p2.le p2.ora (.inl (rv.mono p2.le0)) r2 e4' fun F3 H3 u3 p3 r3 => ?_
  have hv3 : H3 p = some (.lst vs) := p3.kept _ _ (p2.kept _ _ hv1 h2.qf) h2.qf
  have w3 := ((w.ext p1).ext p2).ext p3
  exact ⟨p, vs, j, n, rfl, rfl, hv3, by rw [r.length]; exact hz, k F3 _ σ (w3.write hn h1 ⟨_, upd_same, (((rr.mono p2.le0).mono p3.le0).set n r3)⟩)⟩
end
end FL
end
section
set_option maxHeartbeats 1000000
/-! FL: list(range(..)), tuple(range(..)). -/
namespace FL
open PySem PySem.Spec PyProof.Rows L2
def rgL (a : Int) (n : Nat) : List Int := (List.range n).map fun k : Nat => a + k
def lr2 : D → D → Option (List Int)
  | .int i, .int j => if (rgOk i && rgOk j && decide ((j - i).toNat ≤ 16777216)) = true then some (rgL i (j - i).toNat) else none
  | _, _ => none
def lstR1 (f : EF) : EF := fun ρ => bnd (f ρ) fun d => opt ((lr2 (.int 0) d).map fun ns => .lst (ns.map .int))
def lstR2 (f g : EF) : EF := fun ρ => bnd (f ρ) fun d => bnd (g ρ) fun e => opt ((lr2 d e).map fun ns => .lst (ns.map .int))
def tupR1 (f : EF) : EF := fun ρ => bnd (f ρ) fun d => opt ((lr2 (.int 0) d).map fun ns => .tup (ns.map .int))
def tupR2 (f g : EF) : EF := fun ρ => bnd (f ρ) fun d => bnd (g ρ) fun e => opt ((lr2 d e).map fun ns => .tup (ns.map .int))
theorem lr2_some {x y : D} {ns : List Int} (h : lr2 x y = some ns) : ∃ i j, x = .int i ∧ y = .int j ∧ RgOk i j ∧ ns.map V.int = rgV i j := by
  unfold lr2 at h
  split at h
  · rename_i i j
    split at h
    · rename_i hc
      simp only [Bool.and_eq_true, decide_eq_true_eq] at hc
      obtain ⟨h1, h2⟩ := rgOk_iff hc.1.1
      obtain ⟨h3, h4⟩ := rgOk_iff hc.1.2
      cases h
      refine ⟨i, j, rfl, rfl, ⟨h1, h2, h3, h4, hc.2⟩, ?_⟩
      unfold rgL rgV
      rw [List.map_map]; rfl
    · cases h
  · cases h
section
variable {X : Cx} {a b : Expr} {f g : EF} {p pos p2 pos2 : Pos}
theorem f_listR1 (hc : X.calm = true) (hm : X.mg "list" = none) (hm2 : X.mg "range" = none) (ha : PE X a (tB X.K f)) (hg : Gl X "list" := by rfl) (hg2 : Gl X "range" := by rfl)
    (na : starEach [a] X.env = (false, eval a X.env) :: starEach [] X.env := by rfl) (nb : starEach [.Call (.Name "range" p2) [a] [] pos2] X.env = (false, eval (.Call (.Name "range" p2) [a] [] pos2) X.env) :: starEach [] X.env := by rfl) :
    PE X (.Call (.Name "list" p) [.Call (.Name "range" p2) [a] [] pos2] [] pos) (tF X.K (lstR1 f)) :=
  pe_weak (pe_listRg hc hg hm (prg_1 hg2 hm2 ha na) nb) fun σ H Q ⟨c, F, ρ, ω, d, ω', w, e, q⟩ => by
    obtain ⟨x, ω1, e1, a1⟩ := bnd_some e
    obtain ⟨e2, rfl⟩ := opt_some a1
    rw [Option.map_eq_some_iff] at e2
    obtain ⟨ns, e3, rfl⟩ := e2
    obtain ⟨i, j, hi, rfl, ok, hv⟩ := lr2_some e3
    cases hi
    refine ⟨c, F, ρ, ω, _, _, w, e1, fun F1 H1 v p1 r1 => ?_⟩
    cases r1.int
    refine ⟨j, rfl, ok, fun t ht => ?_⟩
    rw [← hv]
    exact q _ _ _ (p1.trans (Post.fresh p1.le p1.ora ht)) (none_back p1 ht) (same_none p1.le ht) ⟨_, upd_same, reps_ints _⟩
theorem f_listR2 (hc : X.calm = true) (hm : X.mg "list" = none) (hm2 : X.mg "range" = none) (ha : PE X a (tB X.K f)) (hb : PE X b (tB X.K g)) (hg : Gl X "list" := by rfl) (hg2 : Gl X "range" := by rfl)
    (na : starEach [a, b] X.env = (false, eval a X.env) :: starEach [b] X.env := by rfl) (na2 : starEach [b] X.env = (false, eval b X.env) :: starEach [] X.env := by rfl) (hp : (backTo pos2 (starEach [b] X.env)).any (·.1) = false := by rfl) (nb : starEach [.Call (.Name "range" p2) [a, b] [] pos2] X.env = (false, eval (.Call (.Name "range" p2) [a, b] [] pos2) X.env) :: starEach [] X.env := by rfl) :
    PE X (.Call (.Name "list" p) [.Call (.Name "range" p2) [a, b] [] pos2] [] pos) (tF X.K (lstR2 f g)) :=
  pe_weak (pe_listRg hc hg hm (prg_2 hg2 hm2 ha hb na na2 hp) nb) fun σ H Q ⟨c, F, ρ, ω, d, ω', w, e, q⟩ => by
    obtain ⟨x, ω1, e1, a1⟩ := bnd_some e
    obtain ⟨y, ω2, e2, a2⟩ := bnd_some a1
    obtain ⟨e4, rfl⟩ := opt_some a2
    rw [Option.map_eq_some_iff] at e4
    obtain ⟨ns, e3, rfl⟩ := e4
    obtain ⟨i, j, rfl, rfl, ok, hv⟩ := lr2_some e3
    refine ⟨c, F, ρ, ω, _, _, w, e1, fun F1 H1 v p1 r1 => ⟨c, F1, ρ, ω1, _, _, w.ext p1, e2, fun F2 H2 u p2 r2 => ?_⟩⟩
    cases r1.int
    cases r2.int
    refine ⟨i, j, rfl, rfl, ok, fun t ht => ?_⟩
    rw [← hv]
    exact q _ _ _ ((p1.trans p2).trans (Post.fresh p2.le p2.ora ht)) (none_back (p1.trans p2) ht) (same_none p2.le ht) ⟨_, upd_same, reps_ints _⟩
theorem e_tupR1 (hc : X.calm = true) (hm : X.mg "tuple" = none) (hm2 : X.mg "range" = none) (ha : PE X a (tB X.K f)) (hg : Gl X "tuple" := by rfl) (hg2 : Gl X "range" := by rfl)
    (na : starEach [a] X.env = (false, eval a X.env) :: starEach [] X.env := by rfl) (nb : starEach [.Call (.Name "range" p2) [a] [] pos2] X.env = (false, eval (.Call (.Name "range" p2) [a] [] pos2) X.env) :: starEach [] X.env := by rfl) :
    PE X (.Call (.Name "tuple" p) [.Call (.Name "range" p2) [a] [] pos2] [] pos) (tE X.K (tupR1 f)) :=
  pe_weak (pe_tupRg hc hg hm (prg_1 hg2 hm2 ha na) nb) fun σ H Q ⟨c, F, ρ, ω, d, ω', w, e, q⟩ => by
    obtain ⟨x, ω1, e1, a1⟩ := bnd_some e
    obtain ⟨e2, rfl⟩ := opt_some a1
    rw [Option.map_eq_some_iff] at e2
    obtain ⟨ns, e3, rfl⟩ := e2
    obtain ⟨i, j, hi, rfl, ok, hv⟩ := lr2_some e3
    cases hi
    refine ⟨c, F, ρ, ω, _, _, w, e1, fun F1 H1 v p1 r1 => ?_⟩
    cases r1.int
    refine ⟨j, rfl, ok, fun t ht => ?_⟩
    rw [← hv]
    exact q _ _ _ (p1.trans (Post.alloc p1.le p1.ora ht)) (.tup upd_same (reps_ints _))
theorem e_tupR2 (hc : X.calm = true) (hm : X.mg "tuple" = none) (hm2 : X.mg "range" = none) (ha : PE X a (tB X.K f)) (hb : PE X b (tB X.K g)) (hg : Gl X "tuple" := by rfl) (hg2 : Gl X "range" := by rfl)
    (na : starEach [a, b] X.env = (false, eval a X.env) :: starEach [b] X.env := by rfl) (na2 : starEach [b] X.env = (false, eval b X.env) :: starEach [] X.env := by rfl) (hp : (backTo pos2 (starEach [b] X.env)).any (·.1) = false := by rfl) (nb : starEach [.Call (.Name "range" p2) [a, b] [] pos2] X.env = (false, eval (.Call (.Name "range" p2) [a, b] [] pos2) X.env) :: starEach [] X.env := by rfl) :
    PE X (.Call (.Name "tuple" p) [.Call (.Name "range" p2) [a, b] [] pos2] [] pos) (tE X.K (tupR2 f g)) :=
  pe_weak (pe_tupRg hc hg hm (prg_2 hg2 hm2 ha hb na na2 hp) nb) fun σ H Q ⟨c, F, ρ, ω, d, ω', w, e, q⟩ => by
    obtain ⟨x, ω1, e1, a1⟩ := bnd_some e
    obtain ⟨y, ω2, e2, a2⟩ := bnd_some a1
    obtain ⟨e4, rfl⟩ := opt_some a2
    rw [Option.map_eq_some_iff] at e4
    obtain ⟨ns, e3, rfl⟩ := e4
    obtain ⟨i, j, rfl, rfl, ok, hv⟩ := lr2_some e3
    refine ⟨c, F, ρ, ω, _, _, w, e1, fun F1 H1 v p1 r1 => ⟨c, F1, ρ, ω1, _, _, w.ext p1, e2, fun F2 H2 u p2 r2 => ?_⟩⟩
    cases r1.int
    cases r2.int
    refine ⟨i, j, rfl, rfl, ok, fun t ht => ?_⟩
    rw [← hv]
    exact q _ _ _ ((p1.trans p2).trans (Post.alloc p2.le p2.ora ht)) (.tup upd_same (reps_ints _))
end
end FL
end
section
set_option maxHeartbeats 1000000
/-! FL: list.count. -/
namespace FL
open PySem PySem.Spec PyProof.Rows L2
def dCount : D → D → Option D
  | .lst ds, .int k => (intsOf ds).map fun ns => .int (ns.count k : Nat)
  | _, _ => none
section
variable {X : Cx} {o e : Expr} {f g : EF} {apos cpos : Pos}
theorem e_count (ho : PE X o (tB X.K f)) (he : PE X e (tB X.K g)) (hs : starEach [e] X.env = (false, eval e X.env) :: starEach [] X.env := by rfl)
    (hbase : attributeBase o "count" X.env (eval o X.env) = eval o X.env := by rfl)
    (hfew : ((backTo cpos (starEach (e :: []) X.env)).all (fun x => !x.1) && (backToKw cpos (keywordEach [] X.env)).all (fun x => x.1.isSome)
      && decide ((e :: ([] : List Expr)).length + ([] : List Keyword).length + (if ([] : List Keyword).isEmpty then 0 else 1) < 30)) = true := by rfl)
    (hline : (apos.endLine == cpos.line) = true := by rfl) (hplain : (backTo cpos (starEach ([] : List Expr) X.env)).any (·.1) = false := by rfl) :
    PE X (.Call (.Attribute o "count" apos) [e] [] cpos) (tE X.K (b2 dCount f g)) :=
  pe_weak (pe_bm PySem.F.plainAttrs_list PySem.F.slot_list_count PySem.F.type_list_count mt_lcount ho (pa_cons he pa_nil hs) hbase hfew hline hs hplain) fun σ H Q ⟨c, F, ρ, ω, d, ω', w, e, q⟩ => by
    obtain ⟨x, ω1, e1, a1⟩ := bnd_some e
    obtain ⟨y, ω2, e2, a2⟩ := bnd_some a1
    obtain ⟨e4, rfl⟩ := opt_some a2
    unfold dCount at e4
    split at e4
    · rename_i ds k
      rw [Option.map_eq_some_iff] at e4
      obtain ⟨ns, e5, rfl⟩ := e4
      cases intsOf_eq e5
      refine ⟨c, F, ρ, ω, _, _, w, e1, fun F1 H1 v p1 r1 => ?_⟩
      obtain ⟨p, vs, rfl, h1, r⟩ := r1.lst p1.le
      refine ⟨.inl ⟨rfl, vs, .inl (.inl h1)⟩, c, F1, ρ, ω1, _, _, w.ext p1, e2, fun F2 H2 u p2 r2 => ?_⟩
      have r1' := r1.ext p2
      obtain ⟨p', vs', ep, h2, r'⟩ := r1'.lst p2.le
      cases ep
      cases r'.ints
      cases r2.int
      exact ⟨p, ns, k, rfl, rfl, .inl (.inl h2), q F2 H2 _ (p1.trans p2) (.int _)⟩
    · cases e4
end
end FL
end
section
set_option maxHeartbeats 2000000
/-! FL: t[::-1] of a tuple. -/
namespace FL
open PySem PySem.Spec PyProof.Rows L2
section
variable {prog : Program} {w : World} {A : Around} {E : Value → Shared → Prop} {s : Shared}
theorem fmc {α β : Type} {f g : α → Option β} : ∀ {l : List α}, (∀ a ∈ l, f a = g a) → l.filterMap f = l.filterMap g
  | [], _ => rfl
  | a :: l, h => by rw [List.filterMap_cons, List.filterMap_cons, h a (by simp), fmc fun b hb => h b (by simp [hb])]
theorem back_parts (n : Nat) : Builtin.Slice.sliceAdjust none none (-1) (n : Int) = ((n : Int) - 1, -1) ∧ Builtin.Slice.slicePlaces ((n : Int) - 1) (-1) (-1) = n := by
  constructor
  · unfold Builtin.Slice.sliceAdjust
    simp only [show ((-1 : Int) < 0) by decide, if_true]
  · unfold Builtin.Slice.slicePlaces
    rw [if_neg (by decide)]
    by_cases h : (n : Int) - 1 > -1
    · rw [if_pos h]; simp
    · rw [if_neg h]; omega
theorem back_applied {sl : Addr} {vk : Value} {n : Nat} {Q : Int × Int × Nat → Shared → Prop} (hs : s.heap.IsSliceOf sl .none .none vk) (pk : IsPart vk (some (-1))) (h : Q ((n : Int) - 1, -1, n) s) : wpAny (model prog w) A (Builtin.Slice.sliceApplied (.ref sl) (pure (n : Int))) Q E s := by
  obtain ⟨os, hos, hcs, hds⟩ := id hs
  unfold Builtin.Slice.sliceApplied Builtin.Slice.sliceFields
  refine wpAny_bind (wpAny_bind (wpAny_field hos hds (x := .none) rfl (wpAny_bind (wpAny_field hos hds (x := .none) rfl (wpAny_bind (wpAny_field hos hds (x := vk) rfl (wpAny_pure ?_)))))))
  refine wpAny_bind (HT.slicePart_ pk ?_)
  show wpAny _ _ (if ((-1 : Int) == 0) = true then _ else _) _ _ s
  rw [if_neg (by decide)]
  refine wpAny_bind (HT.slicePart_ .none (wpAny_bind (HT.slicePart_ .none (wpAny_bind (wpAny_pure ?_)))))
  show wpAny _ _ (match Builtin.Slice.sliceAdjust none none (-1) (n : Int) with | (lo, hi) => pure (lo, (-1 : Int), Builtin.Slice.slicePlaces lo hi (-1))) _ _ s
  rw [(back_parts n).1]
  show wpAny _ _ (pure ((n : Int) - 1, (-1 : Int), Builtin.Slice.slicePlaces ((n : Int) - 1) (-1) (-1))) _ _ s
  rw [(back_parts n).2]
  exact wpAny_pure h
theorem back_pick (xs : Array Value) : ((List.range xs.size).filterMap fun (m : Nat) => xs[((xs.size : Int) - 1 + (m : Int) * (-1)).toNat]?).toArray = xs.toList.reverse.toArray := by
  congr 1
  have e : ∀ l : List Value, ((List.range l.length).filterMap fun (m : Nat) => l[((l.length : Int) - 1 + (m : Int) * (-1)).toNat]?) = l.reverse := fun l => by
    have h1 : ((List.range l.length).filterMap fun (m : Nat) => l[((l.length : Int) - 1 + (m : Int) * (-1)).toNat]?) = (List.range l.length).filterMap fun m => l.reverse[m]? := by
      apply fmc
      intro m hm
      have := List.mem_range.mp hm
      rw [List.getElem?_reverse this, show ((l.length : Int) - 1 + (m : Int) * (-1)).toNat = l.length - 1 - m by omega]
    rw [h1]
    have h2 : ∀ k : List Value, (List.range k.length).filterMap (fun m => k[m]?) = k := fun k => by
      apply List.ext_getElem?
      intro i
      have h3 : (List.range k.length).filterMap (fun m => k[m]?) = (List.range k.length).map fun m => k.getD m .none := by
        rw [← List.filterMap_eq_map]
        apply fmc
        intro m hm
        have := List.mem_range.mp hm
        simp [List.getElem?_eq_getElem this, List.getD_eq_getElem?_getD]
      rw [h3]
      by_cases hi : i < k.length
      · rw [List.getElem?_map, List.getElem?_range hi, Option.map_some, List.getD_eq_getElem?_getD, List.getElem?_eq_getElem hi]; rfl
      · rw [List.getElem?_eq_none (by simp; omega), List.getElem?_eq_none (by omega)]
    have := h2 l.reverse
    rwa [List.length_reverse] at this
  have h := e xs.toList
  simpa using h
theorem item_back {t sl : Addr} {items : Array Value} {vk : Value} {Q : Value → Shared → Prop} (ht : IsTup s.heap t items) (hs : s.heap.IsSliceOf sl .none .none vk) (pk : IsPart vk (some (-1)))
    (h : Q (.ref s.heap.objs.size) { s with heap := s.heap.push { cls := .type "tuple", data := .seq items.toList.reverse.toArray } }) (hsz : items.size ≤ sizeLine) : wpAny (model prog w) A (getItem (.ref t) (.ref sl)) Q E s := by
  have hok : sizeOk (.seq items.toList.reverse.toArray) := by show items.toList.reverse.toArray.size ≤ sizeLine; simpa using hsz
  obtain ⟨os, hos, hcs, hds⟩ := id hs
  have hTs : s.TypeIs (.ref sl) "slice" := ⟨os, hos, hcs⟩
  unfold getItem
  try with_reducible refine wpAny_holding ?_
  first | refine wpAny_bind (wpAny_pure ?_) | skip
  refine wpAny_bind (wpAny_sequenceKey ht.typeIs (by decide) (wpAny_bind (wpAny_callSpecial?_slot (name := Str.ofString "__getitem__") ht.typeIs PyProof.Rows.slot_tuple_getitem
    (wpAny_call_entry PyProof.Rows.slot_tuple_getitem ht.typeIs entry_tuple_getitem ?_ (args_tuple_getitem _ _)))))
  show wpAny _ _ (Builtin.Tuple.tupleItemsOf (.ref t) >>= _) _ _ s
  refine wpAny_bind (tupleItemsOf_ ht (wpAny_bind (wpAny_typeOf hTs ?_)))
  rw [if_pos (by decide)]
  refine wpAny_bind (back_applied (n := items.size) hs pk ?_)
  show wpAny _ _ (if ((((items.size : Int) - 1) == 0 && (-1 : Int) == 1 && items.size == items.size)) = true then _ else _) _ _ s
  rw [if_neg (by rw [show ((-1 : Int) == 1) = false from rfl, Bool.and_false, Bool.false_and]; exact Bool.false_ne_true), back_pick]
  first
    | exact wpAny_bind (m := Builtin.Tuple.tupleExact _) (wpAny_newObj_type (wpAny_pure ⟨_, rfl, wpAny_pure h⟩) hok)
    | exact wpAny_bind (m := Builtin.Tuple.tupleExact _) (wpAny_newObj_type (wpAny_bind (wpAny_pure (wpAny_pure ⟨_, rfl, wpAny_pure h⟩))) hok)
    | exact wpAny_bind (wpAny_bind (m := Builtin.Tuple.tupleExact _) (wpAny_newObj_type (wpAny_pure (wpAny_pure ⟨_, rfl, wpAny_pure h⟩)) hok))
    | exact wpAny_bind (wpAny_bind (m := Builtin.Tuple.tupleExact _) (wpAny_newObj_type (wpAny_pure ⟨_, rfl, wpAny_pure h⟩) hok))
end
section
variable {X : Cx}
def tRevT (K : PySem.W.Frag) (te : TE) : TE := fun σ H Q => te σ H fun x H1 => ∃ a xs, x = .ref a ∧ SqT K H1 a xs ∧ ∀ p, H1 p = none → Q (.ref p) (upd H1 p (.tup xs.reverse))
theorem pe_revT {e : Expr} {te : TE} {k : Nat} {p1 p2 p3 pos : Pos} (he : PE X e te) : PE X (.Subscript e (.Slice none none (some (.UnaryOp .USub (.Constant (.int 1) k p1) p2)) p3) pos) (tRevT X.K te) := by
  refine ⟨fun pins s σ H Q I h => ?_⟩
  refine Subscript_ (thn (he.run pins s σ H _ I h) fun v s1 ⟨x, H1, I1, r1, a, xs, ex, hx, q⟩ => ?_)
  subst ex
  cases r1
  have hst : PO X (some (.UnaryOp .USub (.Constant (.int 1) k p1) p2)) (tPart (tUn (rU fun i => .int (-i)) (tC (.int 1)))) := po_some (pe_un un_neg pe_int)
  refine wpAny_Slice (thn (po_none.run pins s1 σ H1 (fun o H2 => o = none ∧ H2 = H1) I1 ⟨rfl, rfl⟩) fun vl s2 ⟨l, H2, I2, pl, el, e2⟩ => ?_)
  subst el e2
  refine thn (po_none.run pins s2 σ H2 (fun o H3 => o = none ∧ H3 = H2) I2 ⟨rfl, rfl⟩) fun vu s3 ⟨u, H3, I3, pu, eu, e3⟩ => ?_
  subst eu e3
  refine thn (hst.run pins s3 σ H3 (fun o H4 => o = some (-1) ∧ H4 = H3) I3 ⟨1, rfl, -1, rfl, rfl, rfl⟩) fun vs s4 ⟨o, H4, I4, ps, eo, e4⟩ => ?_
  subst eo e4
  have I5 : Inv X pins σ H4 { s4 with heap := s4.heap.push { cls := .type "slice", data := .fields #[vl, vu, vs] } } := I4.kept (t' := s4.toks) fun b ob q => Heap.get?_push_of_some _ q
  obtain ⟨its, r, ht, hz⟩ := I5.tuple hx
  have hlen := r.length
  cases pl
  cases pu
  show wpAny (model X.prog X.w) X.A (subscriptTail e (.Slice none none (some (.UnaryOp .USub (.Constant (.int 1) k p1) p2)) p3) (.ref a) (.ref s4.heap.objs.size)) (EP X pins σ Q) X.xe { s4 with heap := s4.heap.push { cls := .type "slice", data := .fields #[.none, .none, vs] } }
  refine tail_any (ops := [.ref a, .ref s4.heap.objs.size]) ht.typeIs (PyProof.Rows.slot_tuple_getitem.lookup) ?_ (by with_unfolding_all rfl)
  refine item_back ht (Heap.IsSliceOf.new _ .none .none vs) ps ?_ (by rw [List.size_toArray]; omega)
  refine ⟨.ref _, _, I5.laid (t' := s4.toks) (o := .tup xs.reverse) (fun b ob q => Heap.get?_push_of_some _ q) (Nat.le_refl _) ?_, rfl, q _ (I5.hok.fresh (Nat.le_refl _))⟩
  exact ⟨by rw [List.length_reverse]; exact hz, _, r.reverse, IsTup.new _ _⟩
def dRevT : D → Option D
  | .tup ds => some (.tup ds.reverse)
  | _ => none
theorem e_revT {a : Expr} {f : EF} {pos : Pos} {k : Nat} {q1 q2 q3 : Pos} (ha : PE X a (tB X.K f)) : PE X (.Subscript a (.Slice none none (some (.UnaryOp .USub (.Constant (.int 1) k q1) q2)) q3) pos) (tE X.K (b1 dRevT f)) :=
  pe_weak (pe_revT ha) fun σ H Q ⟨c, F, ρ, ω, d, ω', w, e, q⟩ => by
    obtain ⟨x, ω1, e1, e⟩ := bnd_some e
    obtain ⟨e4, rfl⟩ := opt_some e
    refine ⟨c, F, ρ, ω, x, _, w, e1, fun F1 H1 v p1 r1 => ?_⟩
    cases x <;> simp only [dRevT, reduceCtorEq, Option.some.injEq] at e4
    subst e4
    have rr := r1.rep_of (fun p h => h)
    obtain ⟨p, vs, rfl, h1, r⟩ := r1.tup p1.le
    exact ⟨p, vs, rfl, h1, fun t ht => q _ _ _ (p1.trans (Post.alloc p1.le p1.ora ht)) (.tup upd_same (r.reverse.mono (same_new (same_none p1.le ht))))⟩
end
end FL
end
section
/-! FL: a, b = e1, e2 where one is a new list; tuple(reversed(a list)). -/
namespace FL
open PySem PySem.Spec PyProof.Rows L2
section
variable {X : Cx} {f g : EF} {pos : Pos}
variable {x y : Str} {e1 e2 : Expr} {px py pt pt2 : Pos} {kt k2 : Nat}
/-- the first one new -/
def parOD (i j : Nat) (f g : EF) : SF := fun ρ => bnd (f ρ) fun x => bnd (g ρ) fun y => ret (.nx (sset (sset ρ i (.o x)) j (.d y)))
theorem s_parOD (i j : Nat) (hN : X.N.Nodup) (hij : i ≠ j) (h1 : PE X e1 (tF X.K f)) (h2 : PE X e2 (tE X.K g)) (hi : X.N[i]? = some x := by rfl) (hj : X.N[j]? = some y := by rfl)
    (hx : X.env.scope.names.lookup x = some .local := by rfl) (hy : X.env.scope.names.lookup y = some .local := by rfl) (hc : X.calm = true := by rfl)
    (hw : swappedStores [.Tuple [.Name x px, .Name y py] kt pt] (.Tuple [e1, e2] k2 pt2) X.env = pure (some [x, y]) := by rfl)
    (hs : swapsWithSole [.Tuple [.Name x px, .Name y py] kt pt] (.Tuple [e1, e2] k2 pt2) pos.line X.env = pure false := by rfl)
    (na : starEach [e1, e2] X.env = (false, eval e1 X.env) :: starEach [e2] X.env := by rfl) (nb : starEach [e2] X.env = (false, eval e2 X.env) :: starEach [] X.env := by rfl) :
    PS X (.Assign [.Tuple [.Name x px, .Name y py] kt pt] (.Tuple [e1, e2] k2 pt2) pos) (tS X.K (parOD i j f g)) :=
  ps_weak (ps_par hc hN hi hj hij hx hy (pa_cons h1 (pa_cons h2 pa_nil nb) na) hw hs) fun D σ H ⟨c, F, ρ, ω, o, ω', w, e, k⟩ => by
    obtain ⟨x1, ω1, g1, e⟩ := bnd_some e
    obtain ⟨y1, ω2, g2, e⟩ := bnd_some e
    obtain ⟨rfl, rfl⟩ := ret_some e
    refine ⟨c, F, ρ, ω, x1, ω1, w, g1, fun F1 H1 p p1 np fp rp => ⟨c, F1, ρ, ω1, y1, _, w.ext p1, g2, fun F2 H2 u p2 r2 => ⟨.ref p, u, rfl, k F2 H2 _ ?_⟩⟩⟩
    have qp := qfree_none w.post.ora np
    have w2 := (w.ext p1).ext p2
    have fp2 : F2 p = none := by rw [p2.new p rp.mut]; exact fp
    have op : Own X.K c F2 H2 p x1 := ⟨fp2, w.h0_none np, qp, rp.mono p2.le0 fun o h => p2.kept p o h qp⟩
    exact (w2.set_o op i (fun j' y' _ hy' => w.fresh_ne np j' y' hy') (w.new_o (p1.trans p2) np i x1)).set_d r2 j
/-- the second one new -/
def parDO (i j : Nat) (f g : EF) : SF := fun ρ => bnd (f ρ) fun x => bnd (g ρ) fun y => ret (.nx (sset (sset ρ i (.d x)) j (.o y)))
theorem s_parDO (i j : Nat) (hN : X.N.Nodup) (hij : i ≠ j) (h1 : PE X e1 (tE X.K f)) (h2 : PE X e2 (tF X.K g)) (hi : X.N[i]? = some x := by rfl) (hj : X.N[j]? = some y := by rfl)
    (hx : X.env.scope.names.lookup x = some .local := by rfl) (hy : X.env.scope.names.lookup y = some .local := by rfl) (hc : X.calm = true := by rfl)
    (hw : swappedStores [.Tuple [.Name x px, .Name y py] kt pt] (.Tuple [e1, e2] k2 pt2) X.env = pure (some [x, y]) := by rfl)
    (hs : swapsWithSole [.Tuple [.Name x px, .Name y py] kt pt] (.Tuple [e1, e2] k2 pt2) pos.line X.env = pure false := by rfl)
    (na : starEach [e1, e2] X.env = (false, eval e1 X.env) :: starEach [e2] X.env := by rfl) (nb : starEach [e2] X.env = (false, eval e2 X.env) :: starEach [] X.env := by rfl) :
    PS X (.Assign [.Tuple [.Name x px, .Name y py] kt pt] (.Tuple [e1, e2] k2 pt2) pos) (tS X.K (parDO i j f g)) :=
  ps_weak (ps_par hc hN hi hj hij hx hy (pa_cons h1 (pa_cons h2 pa_nil nb) na) hw hs) fun D σ H ⟨c, F, ρ, ω, o, ω', w, e, k⟩ => by
    obtain ⟨x1, ω1, g1, e⟩ := bnd_some e
    obtain ⟨y1, ω2, g2, e⟩ := bnd_some e
    obtain ⟨rfl, rfl⟩ := ret_some e
    refine ⟨c, F, ρ, ω, x1, ω1, w, g1, fun F1 H1 v p1 r1 => ⟨c, F1, ρ, ω1, y1, _, w.ext p1, g2, fun F2 H2 t p2 nt ft rt => ⟨v, .ref t, rfl, k F2 H2 _ ?_⟩⟩⟩
    have w1 := w.ext p1
    have qt := qfree_none w1.post.ora nt
    have w2 := (w1.ext p2).set_d (r1.mono p2.le0) i
    have ot : Own X.K c F2 H2 t y1 := ⟨ft, w1.h0_none nt, qt, rt⟩
    refine w2.set_o ot j (fun j' y' hj' hy' => ?_) (w.news (p1.trans p2) (fun k n y e => ?_) fun k y q e es => ?_)
    · rw [nth_sset] at hy'
      by_cases hji : j' = i
      · subst hji
        by_cases hl : j' < ρ.length
        · rw [if_pos rfl, if_pos hl] at hy'; cases hy'
        · rw [if_pos rfl, if_neg hl] at hy'; cases hy'
      · rw [if_neg hji] at hy'
        rw [List.getElem?_set_ne (Ne.symm hji)]
        exact w1.fresh_ne nt j' y' hy'
    · rw [nth_sset] at e
      by_cases h : k = j
      · rw [if_pos h] at e; split at e <;> cases e
      · rw [if_neg h, nth_sset] at e
        by_cases h' : k = i
        · rw [if_pos h'] at e; split at e <;> cases e
        · rw [if_neg h'] at e
          exact ⟨e, by rw [List.getElem?_set_ne (Ne.symm h), List.getElem?_set_ne (Ne.symm h')]⟩
    · rw [nth_sset] at e
      have hk := (List.getElem?_eq_some_iff.mp es).1
      rw [List.length_set, List.length_set] at hk
      by_cases h : k = j
      · subst h
        rw [List.getElem?_set_self (by rw [List.length_set]; exact hk)] at es
        cases es
        exact .inr (none_back p1 nt)
      · rw [if_neg h, nth_sset] at e
        rw [List.getElem?_set_ne (Ne.symm h)] at es ⊢
        by_cases h' : k = i
        · rw [if_pos h'] at e; split at e <;> cases e
        · rw [if_neg h'] at e
          rw [List.getElem?_set_ne (Ne.symm h')] at es ⊢
          exact .inl ⟨e, rfl⟩
def dTupRev : D → Option D
  | .lst ds => some (.tup ds.reverse)
  | _ => none
variable {e : Expr} {p p2 pos2 : Pos}
theorem e_tupRev (hm : X.mg "tuple" = none) (hm2 : X.mg "reversed" = none) (he : PE X e (tB X.K f)) (hg : Gl X "tuple" := by rfl) (hg2 : Gl X "reversed" := by rfl) (hc : X.calm = true := by rfl)
    (hs : starEach [e] X.env = (false, eval e X.env) :: starEach [] X.env := by rfl)
    (hs2 : starEach [.Call (.Name "reversed" p2) [e] [] pos2] X.env = (false, eval (.Call (.Name "reversed" p2) [e] [] pos2) X.env) :: starEach [] X.env := by rfl) :
    PE X (.Call (.Name "tuple" p) [.Call (.Name "reversed" p2) [e] [] pos2] [] pos) (tE X.K (b1 dTupRev f)) :=
  pe_weak (RT.pe_tupRev hc hg hm hg2 hm2 he hs hs2) fun σ H Q ⟨c, F, ρ, ω, d, ω', w, e, q⟩ => by
    obtain ⟨x, ω1, e1, e⟩ := bnd_some e
    obtain ⟨e4, rfl⟩ := opt_some e
    refine ⟨c, F, ρ, ω, x, _, w, e1, fun F1 H1 v p1 r1 => ?_⟩
    cases x <;> simp only [dTupRev, reduceCtorEq, Option.some.injEq] at e4
    subst e4
    obtain ⟨p, vs, rfl, h1, r⟩ := r1.lst p1.le
    exact ⟨p, vs, rfl, .inl (.inl h1), fun t ht => q _ _ _ (p1.trans (Post.alloc p1.le p1.ora ht)) (.tup upd_same (r.reverse.mono (same_new (same_none p1.le ht))))⟩
end
end FL
end
section
/-! FL: min of three ints. -/
namespace FL
open PySem PySem.Spec PyProof.Rows L2
def aMin3 : List D → Option D
  | [.int i, .int j, .int k] => some (.int (if k < (if j < i then j else i) then k else (if j < i then j else i)))
  | _ => none
theorem Vws.three {K : PySem.W.Frag} {q : Qa} {F H vs} {d e f : D} (h : Vws K q F H vs [d, e, f]) : ∃ u v w, vs = [u, v, w] ∧ Vw K q F H u d ∧ Vw K q F H v e ∧ Vw K q F H w f := by
  cases h with
  | cons h1 h => cases h with
    | cons h2 h => cases h with
      | cons h3 h => cases h; exact ⟨_, _, _, rfl, h1, h2, h3⟩
theorem min3_pure {K : PySem.W.Frag} : PureA K (rNuC3 nuMin3) aMin3 := by
  intro q F H ω xs a d Q hs ho hx e k
  unfold aMin3 at e
  split at e
  · cases e
    rename_i i j l
    obtain ⟨u, v, w, rfl, h1, h2, h3⟩ := hx.three
    cases h1.int
    cases h2.int
    cases h3.int
    refine ⟨_, _, _, _, rfl, ?_, k F H _ (.mk0 hs ho) (.int _)⟩
    unfold nuMin3 nuMin2 nuLt nuCB
    by_cases c : j < i
    · simp only [c, decide_true, Option.map_some, if_true, Option.bind_some]
      by_cases c2 : l < j
      · simp [c2]
      · simp [c2]
    · simp only [c, decide_false, Option.map_some, if_false, Option.bind_some, Bool.false_eq_true]
      by_cases c2 : l < i
      · simp [c2]
      · simp [c2]
  · cases e
end FL
end
section
set_option maxHeartbeats 1000000
/-! FL: tuple.count. -/
namespace FL
open PySem PySem.Spec PyProof.Rows L2
def dTCount : D → D → Option D
  | .tup ds, .int k => (intsOf ds).map fun ns => .int (ns.count k : Nat)
  | _, _ => none
section
variable {X : Cx} {o e : Expr} {f g : EF} {apos cpos : Pos}
def rCntT (K : PySem.W.Frag) : V → List V → Hp → VK → Prop := fun x xs H Q => ∃ (p : Addr) (ns : List Int) (k : Int), x = .ref p ∧ xs = [.int k] ∧ SqT K H p (ns.map V.int) ∧ Q (.int (ns.count k : Nat)) H
theorem mt_tcount : MtR X "tuple.count" (rCntT X.K) := by
  intro pins s σ H x xs v us Q I rx rxs h
  obtain ⟨p, ns, k, rfl, rfl, hs, q⟩ := h
  cases rx
  obtain ⟨u, rfl, ru⟩ := rxs.one
  obtain ⟨t, rfl⟩ := ru
  obtain ⟨its, rv, ⟨⟨cls, dd, data, sl⟩, ho, hc, n, hd⟩, hlen⟩ := I.tuple hs
  simp only at hc hd
  subst hc hd
  have hi := ints_of_vals rv
  refine call_meets PySem.F.slot_tuple_count ⟨_, ho, rfl⟩ PySem.F.entry_tuple_count (PySem.F.args_tuple_count_2 _ _)
    (SeqAt.tuple_countAt p its.toArray n dd sl (.int k t) (eqk k)) ⟨ho, fun y hy => (eqk_gives hi y (by simpa using hy)).at _ _, ?_⟩
  have ec : its.toArray.toList.countP (eqk k) = ns.count k := eqk_count hi
  refine ⟨.int (ns.count k : Nat), H, I.tok _, ⟨s.toks, ?_⟩, q⟩
  show Value.int ((its.toArray.toList.countP (eqk k) : Nat) : Int) s.toks = Value.int ((ns.count k : Nat) : Int) s.toks
  rw [ec]
end
end FL
end
section
set_option maxHeartbeats 1000000
/-! FL: list.remove of an int; list(range) of three; a new list by a choice. -/
namespace FL
open PySem PySem.Spec PyProof.Rows L2
def remO : SV → D → Option D
  | .o (.lst ds), .int k => (intsOf ds).bind fun ns => (ns.findIdx? (· == k)).map fun j => .lst ((ns.eraseIdx j).map .int)
  | _, _ => none
theorem remO_some {v : SV} {d l : D} (h : remO v d = some l) : ∃ (ns : List Int) (k : Int) (j : Nat), v = SV.o (D.lst (ns.map D.int)) ∧ d = D.int k ∧ ns[j]? = some k ∧ (∀ m : Nat, m < j → ns[m]? ≠ some k) ∧ l = D.lst ((ns.eraseIdx j).map D.int) := by
  unfold remO at h
  split at h
  · rename_i ds k
    rw [Option.bind_eq_some_iff] at h
    obtain ⟨ns, h1, h2⟩ := h
    rw [Option.map_eq_some_iff] at h2
    obtain ⟨j, h3, rfl⟩ := h2
    cases intsOf_eq h1
    rw [List.findIdx?_eq_some_iff_getElem] at h3
    obtain ⟨hj, h4, h5⟩ := h3
    have h4' : ns[j] = k := by simpa using h4
    refine ⟨ns, k, j, rfl, rfl, by rw [List.getElem?_eq_getElem hj, h4'], fun m hm e => ?_, rfl⟩
    rw [List.getElem?_eq_getElem (by omega)] at e
    have := h5 m hm
    simp only [Option.some.injEq] at e
    rw [e] at this
    simp at this
  · cases h
def remS (i : Nat) (f : EF) : SF := fun ρ => bnd (f ρ) fun d => bnd (opt (remO (nth ρ i) d)) fun l => ret (.nx (sset ρ i (.o l)))
section
variable {X : Cx} {e : Expr} {f : EF} {pos : Pos}
theorem s_rem (i : Nat) {o : Expr} {apos cpos : Pos} (ho : PE X o (tVar i)) (he : PE X e (tE X.K f)) (hs : starEach [e] X.env = (false, eval e X.env) :: starEach [] X.env := by rfl)
    (hbase : attributeBase o "remove" X.env (eval o X.env) = eval o X.env := by rfl)
    (hfew : ((backTo cpos (starEach (e :: []) X.env)).all (fun x => !x.1) && (backToKw cpos (keywordEach [] X.env)).all (fun x => x.1.isSome)
      && decide ((e :: ([] : List Expr)).length + ([] : List Keyword).length + (if ([] : List Keyword).isEmpty then 0 else 1) < 30)) = true := by rfl)
    (hline : (apos.endLine == cpos.line) = true := by rfl) (hplain : (backTo cpos (starEach ([] : List Expr) X.env)).any (·.1) = false := by rfl)
    (hsw : swapsWith (.Call (.Attribute o "remove" apos) [e] [] cpos) none pos.line X.env = pure false := by rfl) :
    PS X (.Expr (.Call (.Attribute o "remove" apos) [e] [] cpos) pos) (tS X.K (remS i f)) :=
  ps_weak (ps_expr (pe_bm PySem.F.plainAttrs_list PySem.F.slot_list_remove PySem.F.type_list_remove mt_remove ho (pa_cons he pa_nil hs) hbase hfew hline hs hplain) hsw) fun D σ H ⟨c, F, ρ, ω, o, ω', w, e, k⟩ => by
    obtain ⟨d, ω1, e1, e⟩ := bnd_some e
    obtain ⟨l, ω2, e2, e⟩ := bnd_some e
    obtain ⟨rfl, rfl⟩ := ret_some e
    obtain ⟨e3, rfl⟩ := opt_some e2
    obtain ⟨ns, kk, j, hn, rfl, hj, hno, rfl⟩ := remO_some e3
    obtain ⟨p, h1, h2⟩ := w.ow i _ hn
    obtain ⟨vs, hv, r⟩ := h2.r
    cases r.ints
    refine ⟨_, h1, .inl ⟨rfl, _, .inl (.inl hv)⟩, c, F, ρ, ω, _, _, w, e1, fun F1 H1 v p1 r1 => ?_⟩
    cases r1
    have w1 := w.ext p1
    have hv1 : H1 p = some (.lst (ns.map V.int)) := p1.kept _ _ hv h2.qf
    exact ⟨p, ns, kk, j, rfl, rfl, hv1, hj, hno, k F1 _ σ (w1.write hn h1 ⟨_, upd_same, reps_ints _⟩)⟩
end
end FL
end
section
set_option maxHeartbeats 1000000
/-! FL: a new list by a choice. -/
namespace FL
open PySem PySem.Spec PyProof.Rows L2
section
variable {X : Cx} {a b : Expr} {f g : EF} {pos : Pos}
theorem f_if {c : Expr} {t : BF} (hc : PT X c (tT' X.K t)) (ha : PE X a (tF X.K f)) (hb : PE X b (tF X.K g)) : PE X (.IfExp c a b pos) (tF X.K (ifE t f g)) := pe_weak (pe_ifExp hc ha hb) fun σ H Q ⟨c, F, ρ, ω, d, ω', w, e, q⟩ => by
  obtain ⟨x, ω1, e1, e2⟩ := bnd_some e
  refine ⟨c, F, ρ, ω, x, ω1, w, e1, fun F1 H1 p1 => ?_⟩
  cases x with
  | true => exact ⟨c, F1, ρ, ω1, d, ω', w.ext p1, e2, fun F2 H2 p p2 n1 n2 r => q F2 H2 p (p1.trans p2) (none_back p1 n1) n2 r⟩
  | false => exact ⟨c, F1, ρ, ω1, d, ω', w.ext p1, e2, fun F2 H2 p p2 n1 n2 r => q F2 H2 p (p1.trans p2) (none_back p1 n1) n2 r⟩
end
end FL
end
section
set_option maxHeartbeats 1000000
/-! FL: list(range(a, b, c)). -/
namespace L2
open PySem PySem.Spec PyProof.Rows
section
variable {X : Cx}
def rgVC (i k : Int) (n : Nat) : List V := (List.range n).map fun m => V.int (i + (m : Nat) * k)
theorem vals_rgC {i k : Int} {n : Nat} {acc : Array Value} (h : ItemsOf (fun m v => ∃ t, v = .int (i + m * k) t) acc n) : Vals (rgVC i k n) acc.toList := by
  have e : acc.toList.length = n := by rw [Array.length_toList]; exact h.1
  unfold rgVC
  rw [← e]
  refine vals_of_get acc.toList _ fun j u hj => ?_
  obtain ⟨t, rfl⟩ := h.2 j u (by rw [← hj, Array.getElem?_toList])
  exact ⟨t, rfl⟩
def tLstRg3 (ta : TA) : TE := fun σ H Q => ta σ H fun vs H1 => ∃ (i j k : Int) (n : Nat), vs = [.int i, .int j, .int k] ∧ k ≠ 0 ∧ k.natAbs < 1073741824 ∧ Builtin.Range.small i j k = true ∧ Builtin.Range.rangeSize i j k = n ∧ n ≤ 2 ^ 24 ∧ ∀ q, H1 q = none → Q (.ref q) (upd H1 q (.lst (rgVC i k n)))
theorem pe_listRg3 {a b c : Expr} {ta : TA} {p pos p2 pos2 : Pos} (hc : X.calm = true) (hg : Gl X "list") (hm : X.mg "list" = none) (hg2 : Gl X "range") (hm2 : X.mg "range" = none) (ha : PA X [a, b, c] ta)
    (hs : starEach [a, b, c] X.env = (false, eval a X.env) :: starEach [b, c] X.env := by rfl) (hpl : (backTo pos2 (starEach [b, c] X.env)).any (·.1) = false := by rfl)
    (na : starEach [.Call (.Name "range" p2) [a, b, c] [] pos2] X.env = (false, eval (.Call (.Name "range" p2) [a, b, c] [] pos2) X.env) :: starEach [] X.env := by rfl) :
    PE X (.Call (.Name "list" p) [.Call (.Name "range" p2) [a, b, c] [] pos2] [] pos) (tLstRg3 ta) := by
  refine ⟨fun pins s σ H Q I h => ?_⟩
  refine Call_ (ld_blt I hg hm boot_list (PyProof.Rows.callWith_type1 (args_cons (Call_ (ld_blt I hg2 hm2 boot_range (PyProof.Rows.callWith_type1 (thn (ha.run pos2 pins s σ H _ I h) fun us s1 ⟨vs, H1, I1, r1, q1⟩ => ?_) hs hpl))) na) na))
  obtain ⟨i, j, k, n, e, c0, c1, c2, c3, c4, q⟩ := q1
  subst e
  cases r1 with
  | cons r rr =>
    cases rr with
    | cons r' rr =>
      cases rr with
      | cons r'' rr =>
        cases rr
        obtain ⟨t, rfl⟩ := r
        obtain ⟨t', rfl⟩ := r'
        obtain ⟨t'', rfl⟩ := r''
        refine call_range_3 c0 ?_ (.inl (PyProof.noPylong_small c1))
        have I2 : Inv X pins σ H1 { s1 with heap := s1.heap.push { cls := .type "range", data := .fields #[.int i t, .int j t', .int k t''] } } := I1.kept (t' := s1.toks) fun b o e => Heap.get?_push_of_some _ e
        refine args_nil ?_
        refine call_list_range (n := n) (I2.ok.hd hc) (IsRange.new ..) c2 c3 c4 fun h' tk acc c' hk e' hi => ?_
        refine ⟨.ref (s1.heap.push { cls := .type "range", data := .fields #[.int i t, .int j t', .int k t''] }).objs.size, upd H1 (s1.heap.push { cls := .type "range", data := .fields #[.int i t, .int j t', .int k t''] }).objs.size (.lst (rgVC i k n)), I2.laid (t' := tk) hk (Nat.le_refl _) (show ObjOk X.prog X.w _ _ _ (.lst (rgVC i k n)) from ⟨?_, acc.toList, c', vals_rgC hi, ?_⟩), rfl, q _ (I2.hok.fresh (Nat.le_refl _))⟩
        · unfold rgVC
          rw [List.length_map, List.length_range, sizeLine_eq]; omega
        · rw [Array.toArray_toList]; exact e'
end
end L2
namespace FL
open PySem PySem.Spec PyProof.Rows L2
def rgLC (a c : Int) (n : Nat) : List Int := (List.range n).map fun k : Nat => a + k * c
def lr3 : D → D → D → Option (List Int)
  | .int i, .int j, .int k => if (rgcOk i j k && decide ((Builtin.Range.rangeSize i j k).toNat ≤ 16777216)) = true then some (rgLC i k (Builtin.Range.rangeSize i j k).toNat) else none
  | _, _, _ => none
def lstR3 (f g h : EF) : EF := fun ρ => bnd (f ρ) fun d => bnd (g ρ) fun e => bnd (h ρ) fun k => opt ((lr3 d e k).map fun ns => .lst (ns.map .int))
section
variable {X : Cx} {a b c : Expr} {f g h : EF} {p pos p2 pos2 : Pos}
theorem f_listR3 (hc : X.calm = true) (hm : X.mg "list" = none) (hm2 : X.mg "range" = none) (ha : PE X a (tB X.K f)) (hb : PE X b (tB X.K g)) (hcc : PE X c (tB X.K h)) (hg : Gl X "list" := by rfl) (hg2 : Gl X "range" := by rfl)
    (na : starEach [a, b, c] X.env = (false, eval a X.env) :: starEach [b, c] X.env := by rfl) (na2 : starEach [b, c] X.env = (false, eval b X.env) :: starEach [c] X.env := by rfl) (na3 : starEach [c] X.env = (false, eval c X.env) :: starEach [] X.env := by rfl) (hp : (backTo pos2 (starEach [b, c] X.env)).any (·.1) = false := by rfl)
    (nb : starEach [.Call (.Name "range" p2) [a, b, c] [] pos2] X.env = (false, eval (.Call (.Name "range" p2) [a, b, c] [] pos2) X.env) :: starEach [] X.env := by rfl) :
    PE X (.Call (.Name "list" p) [.Call (.Name "range" p2) [a, b, c] [] pos2] [] pos) (tF X.K (lstR3 f g h)) :=
  pe_weak (pe_listRg3 hc hg hm hg2 hm2 (pa_cons ha (pa_cons hb (pa_cons hcc pa_nil na3) na2) na) na hp nb) fun σ H Q ⟨c, F, ρ, ω, d, ω', w, e, q⟩ => by
    obtain ⟨x, ω1, e1, a1⟩ := bnd_some e
    obtain ⟨y, ω2, e2, a2⟩ := bnd_some a1
    obtain ⟨z, ω3, e3, a3⟩ := bnd_some a2
    obtain ⟨e4, rfl⟩ := opt_some a3
    rw [Option.map_eq_some_iff] at e4
    obtain ⟨ns, e5, rfl⟩ := e4
    unfold lr3 at e5
    split at e5
    · rename_i i j k
      split at e5
      · rename_i hk
        rw [Bool.and_eq_true, decide_eq_true_eq] at hk
        obtain ⟨hk, hz⟩ := hk
        unfold rgcOk at hk
        simp only [Bool.and_eq_true, decide_eq_true_eq] at hk
        obtain ⟨⟨⟨h1, h2⟩, h3⟩, h4⟩ := hk
        cases e5
        refine ⟨c, F, ρ, ω, _, _, w, e1, fun F1 H1 v p1 r1 => ⟨c, F1, ρ, ω1, _, _, w.ext p1, e2, fun F2 H2 u p2 r2 => ⟨c, F2, ρ, ω2, _, _, (w.ext p1).ext p2, e3, fun F3 H3 t p3 r3 => ?_⟩⟩⟩
        cases r1.int
        cases r2.int
        cases r3.int
        refine ⟨i, j, k, (Builtin.Range.rangeSize i j k).toNat, rfl, h1, h2, h3, h4, hz, fun t ht => ?_⟩
        have p13 := (p1.trans p2).trans p3
        refine q _ _ _ (p13.trans (Post.fresh p3.le p3.ora ht)) (none_back p13 ht) (same_none p3.le ht) ⟨_, upd_same, ?_⟩
        have hv : rgVC i k (Builtin.Range.rangeSize i j k).toNat = (rgLC i k (Builtin.Range.rangeSize i j k).toNat).map V.int := by
          unfold rgVC rgLC
          rw [List.map_map]; rfl
        rw [hv]
        exact reps_ints _
      · cases e5
    · cases e5
end
end FL
end
section
/-! FL: dicts, the walk over the items of a dict with tuple keys. -/
namespace FL
open PySem PySem.Spec PyProof.Rows L2
section
variable {X : Cx} {pins : List (Addr × Obj)} {σ : L2.St} {H : Hp} {s : Shared} {d : Addr} {o : Obj}
theorem frzT2 {kvs : List (List Key × V)} (I : Inv X pins σ H s) (h : H d = some (.frz o (.dT kvs))) :
    (d == sysModules) = false ∧ s.heap.get? d = some o ∧ o.ExactDict ∧ ∃ (es : Array DictEntry) (ep : Nat), o.data = .dict es ep ∧ es.size = kvs.length ∧
      ∀ (i : Nat) (k : List Key) (v : V), kvs[i]? = some (k, v) → ∃ (en : DictEntry) (q : Addr), es[i]? = some en ∧ en.key = .ref q ∧ H q = some (.tup (k.map kV)) ∧ RelV v en.val := by
  obtain ⟨hd, z, hs, xs, pr, o', es, ep, ho, hx, hdt, he, _⟩ := I.hok d _ h
  rw [hd] at ho
  cases ho
  refine ⟨hs, hd, hx, es, ep, hdt, ?_, fun i k v e => ?_⟩
  · have l1 : es.size = xs.length := size_of_entries he
    have l2 : kvs.length = xs.length := Paired.length pr
    omega
  · obtain ⟨b, hb, e1, e2, e3⟩ := paired_get pr e
    have q := entry_at he i
    rw [hb] at q
    exact ⟨_, b.2.1, q, rfl, e2, e3⟩
end
def Itit (d : Addr) (o : Obj) (kvs : List (List Key × V)) : It :=
  ⟨fun i H => H d = some (.frz o (.dT kvs)) ∧ i < kvs.length, fun i H x H' => ∃ T k v q, kvs[i]? = some (k, v) ∧ H q = some (.tup (k.map kV)) ∧ x = .ref T ∧ H T = none ∧ H' = upd H T (.tup [.ref q, v]), fun i H => H d = some (.frz o (.dT kvs)) ∧ kvs.length ≤ i⟩
section
variable {P : Program} {w : World} {K : PySem.W.Frag} {d : Addr} {o : Obj} {es : Array DictEntry} {ep : Nat}
theorem turn_itemsT {kvs : List (List Key × V)} {elts : List Expr} {kk : Nat} {tpos : Pos} (it : Addr) (hod : o.data = .dict es ep) :
    Turn P w K (.Tuple elts kk tpos) (Itit d o kvs) [it] it (fun i h => ∃ ok ov, IsItemIter h it d i kvs.length ep ok ov) where
  mem := by simp
  obj := fun i h st b hb => by
    have e : b = it := by simpa using hb
    subst e
    obtain ⟨ok, ov, e⟩ := st
    exact ⟨_, e, fun v z => nomatch z⟩
  keep := fun i h h' st k => let ⟨ok, ov, e⟩ := st; ⟨ok, ov, k it (by simp) _ e⟩
  item := by
    intro X hP hw hK hc i pins s σ H E I hf st hg
    subst hP hw hK
    obtain ⟨hd, hi⟩ := hg
    obtain ⟨hs, hgd, hx, es', ep', hdt, hsz, ent⟩ := frzT2 I hd
    obtain ⟨rfl, rfl⟩ := dict_ep hod hdt
    obtain ⟨⟨k, v⟩, hkv⟩ : ∃ p, kvs[i]? = some p := ⟨kvs[i], List.getElem?_eq_getElem hi⟩
    obtain ⟨en, q, hen, hkey, hq, ru⟩ := ent i k v hkv
    obtain ⟨ok, ov, he⟩ := st
    rw [← hsz] at he
    have hlt : it < s.heap.objs.size := Heap.lt_size he
    have hi' : i < es'.size := by rw [hsz]; exact hi
    have hen' : es'[i] = en := by rw [Array.getElem?_eq_getElem hi'] at hen; exact Option.some.inj hen
    refine DT.nextI he ⟨o, hgd, hx, hdt⟩ hi' fun h' ho hT hz hk => ?_
    rw [hen'] at ho hT
    refine ⟨_, rfl, wpAny_letOwnedTupleGo_items (s := { s with heap := h' }) ho fun h'' he' sb => ?_⟩
    have hT2 : h''.get? s.heap.objs.size = some { cls := .type "tuple", data := .seq #[en.key, en.val] } := (sb.2 _ (Nat.ne_of_gt hlt)).trans hT
    have new : ObjOk X.prog X.w (upd H s.heap.objs.size (.tup [.ref q, v])) h'' s.heap.objs.size (.tup [.ref q, v]) :=
      ⟨by show 2 ≤ sizeLine; decide, [en.key, en.val], .cons (by rw [hkey]; rfl) (.cons ru .nil), ⟨_, hT2, rfl, _, rfl⟩⟩
    have I1 : Inv X pins σ (upd H s.heap.objs.size (.tup [.ref q, v])) { s with heap := h'' } :=
      I.turnedNew (t' := s.toks) (ch := [it]) (fun b ob hb e => (sb.2 b (by simpa using hb)).trans (hk b ob (by simpa using hb) e)) hf (Nat.le_refl _) new
    refine ⟨.ref s.heap.objs.size, _, I1, rfl, ⟨_, k, v, q, hkv, hq, rfl, I.hok.fresh (Nat.le_refl _), rfl⟩, ⟨en.key, en.val, ?_⟩, fun b hb => ?_⟩
    · rw [← hsz]; exact he'
    · have e : b = it := by simpa using hb
      rw [e, upd_ne (Nat.ne_of_lt hlt)]
      exact (hf it (by simp)).1
  done := by
    intro X hP hw hK hc i pins s σ H E I hf st hg
    subst hP hw hK
    obtain ⟨hd, hi⟩ := hg
    obtain ⟨f0, f1, f2, f3, f4, f5⟩ := hf it (by simp)
    obtain ⟨hs, hgd, hx, es', ep', hdt, hsz, ent⟩ := frzT2 I hd
    obtain ⟨rfl, rfl⟩ := dict_ep hod hdt
    obtain ⟨ok, ov, he⟩ := st
    rw [← hsz] at he
    exact DT.endI (I.ok.hd hc) he ⟨o, hgd, hx, hdt⟩ (by rw [hsz]; exact hi) fun h' eb => ⟨rfl, I.turned (t' := s.toks) (fun b ob hb e => eb b ob hb e) f0 f1 f3 f4 f5⟩
  self := fun A i s Q E st h => let ⟨_, _, e⟩ := st; PySem.W.kcp_self e h
end
def iItemsT (td : TE) : TI := fun σ H R => td σ H fun x H1 => ∃ d o kvs, x = .ref d ∧ H1 d = some (.frz o (.dT kvs)) ∧ R (Itit d o kvs) H1
theorem pi_itemsT {X : Cx} {e : Expr} {td : TE} {apos cpos : Pos} {elts : List Expr} {kk : Nat} {tpos : Pos} (he : PE X e td) (hbase : attributeBase e "items" X.env (eval e X.env) = eval e X.env := by rfl) (hline : (apos.endLine == cpos.line) = true := by rfl) :
    PI X (.Tuple elts kk tpos) (.Call (.Attribute e "items" apos) [] [] cpos) (iItemsT td) := by
  refine ⟨fun pins s σ H R I h => ?_⟩
  refine wpAny_Call_method (T := "dict") (id := "dict.items") hbase rfl hline F.plainAttrs_dict F.slot_dict_items F.type_dict_items (thn (he.run pins s σ H _ I h) fun u s1 ⟨x, H1, I1, rx, d, o, kvs, ex, hd, q⟩ => ?_)
  subst ex
  obtain rfl : u = Value.ref d := rx
  obtain ⟨hs, hgd, hx, es, ep, hdt, hsz, ent⟩ := frzT2 I1 hd
  have raw : DT.Raw s1.heap d es ep := ⟨o, hgd, hx, hdt⟩
  refine ⟨raw.typeIs, fun b q => ?_, ?_⟩
  · cases q; exact ⟨o, hgd, hx.2.1⟩
  have I2 : Inv X pins σ H1 { s1 with heap := s1.heap.push { cls := .type "dict_items", data := .fields #[.ref d] } } := I1.kept (t' := s1.toks) fun b ob q => Heap.get?_push_of_some _ q
  have fin : wpAny (model X.prog X.w) X.A (pyIter (.ref s1.heap.objs.size)) (PIE X pins σ (.Tuple elts kk tpos) R) X.xe { s1 with heap := s1.heap.push { cls := .type "dict_items", data := .fields #[.ref d] } } := by
    refine DT.iterI (d := d) (es := es) (ep := ep) ⟨_, Heap.get?_push_size _ rfl, rfl, rfl⟩ (raw.push _) (pi_one (tk := s1.toks) I2 _ (turn_itemsT _ hdt) ⟨.none, .none, ?_⟩ q)
    rw [← hsz]
    exact Heap.get?_push_size _ rfl
  show wpAny _ _ (callWith cpos (.builtin "dict.items") [.ref d] [] []) _ X.xe s1
  exact method_meetsIn F.slot_dict_items F.entry_dict_items rfl (PySem.evalArgs_none ⟨rfl, raw.typeIs, F.args_dict_items_1 _, _, DT.meetsItems (es := es) (ep := ep) hs, ⟨raw, fin⟩⟩)
end FL
end
section
/-! FL: dicts compared with {}; dicts as tables of data. -/
namespace FL
open PySem PySem.Spec PyProof.Rows L2

/-! ### a dict against an empty one -/
section
variable {prog : Program} {w : World} {A : Around} {E : Value → Shared → Prop} {s : Shared}
theorem samePairs0 {nm : String} {a b : Addr} {es es' : Array DictEntry} {ep ep' : Nat} {Q : Bool → Shared → Prop} (ha : (a == sysModules) = false) (hb : (b == sysModules) = false)
    (da : DT.Raw s.heap a es ep) (db : DT.Raw s.heap b es' ep') (h0 : es.size = 0 ∨ es'.size = 0) (h : Q (es.size == es'.size) s) :
    wpAny (model prog w) A (Builtin.Dict.samePairs nm a b) Q E s := by
  obtain ⟨oa, hoa, _, hda⟩ := da
  obtain ⟨ob, hob, _, hdb⟩ := db
  unfold Builtin.Dict.samePairs Builtin.Dict.showsAll
  rw [if_neg (show ¬ (a == sysModules) = true by rw [ha]; exact Bool.false_ne_true), if_neg (show ¬ (b == sysModules) = true by rw [hb]; exact Bool.false_ne_true)]
  refine wpAny_bind (wpAny_pure (wpAny_bind (wpAny_pure ?_)))
  refine wpAny_bind (wpAny_dictEntries hoa hda ?_)
  dsimp only
  refine wpAny_bind (wpAny_dictEntries hob hdb ?_)
  by_cases hsz : es.size = es'.size
  case neg =>
    rw [if_pos (by simpa using hsz)]
    have hbf : (es.size == es'.size) = false := by simpa using hsz
    rw [hbf] at h
    exact wpAny_bind (wpAny_rule (wpAny_pure h))
  case pos =>
    have h' : Q true s := by simpa [hsz] using h
    have hz : es.size = 0 := by omega
    rw [if_neg (by rw [hsz]; simp)]
    refine wpAny_bind (wpAny_dictEpoch hoa hda ?_)
    refine wpAny_bind ?_
    rw [Std.Legacy.Range.forIn_eq_forIn_range']
    simp only [Std.Legacy.Range.size, Nat.sub_zero, Nat.add_sub_cancel, Nat.div_one]
    rw [hz]
    exact wpAny_pure (wpAny_pure h')
theorem cmp0 {a b : Addr} {es es' : Array DictEntry} {ep ep' : Nat} (ha : (a == sysModules) = false) (hb : (b == sysModules) = false) (da : DT.Raw s.heap a es ep) (db : DT.Raw s.heap b es' ep') (hu : A.units < cLine)
    (h0 : es.size = 0 ∨ es'.size = 0) {Q : Value → Shared → Prop} : (Q (.bool (es.size == es'.size)) s → wpAny (model prog w) A (compareOp .Eq (.ref a) (.ref b)) Q E s) ∧ (Q (.bool (!(es.size == es'.size))) s → wpAny (model prog w) A (compareOp .NotEq (.ref a) (.ref b)) Q E s) := by
  constructor
  · intro h
    refine wpAny_richCompare_same_room (op := .Eq) da.typeIs db.typeIs PySem.F.slot_dict_eq (wpAny_call_entry PySem.F.slot_dict_eq da.typeIs PySem.F.entry_dict_eq ?_ (PySem.F.args_dict_eq_2 _ _)) hu
    show wpAny _ _ (Builtin.Dict.dictSlotArgs "__eq__" ⟨[.ref a, .ref b], []⟩ >>= _) _ _ s
    refine wpAny_bind ?_
    unfold Builtin.Dict.dictSlotArgs
    refine wpAny_bind (wpAny_notOrdered_dict da.typeIs ?_)
    show wpAny _ _ (pure (Value.ref a, Value.ref b)) _ _ s
    refine wpAny_pure ?_
    refine wpAny_bind (wpAny_isInstance (T := "dict") db.typeIs PySem.F.sub_dict_dict ?_)
    simp only [Bool.not_true, Bool.false_eq_true, if_false]
    refine wpAny_bind (wpAny_pure (wpAny_bind (wpAny_pure ?_)))
    refine wpAny_bind (samePairs0 ha hb da db h0 ?_)
    refine wpAny_pure ⟨_, rfl, ?_, ?_⟩
    · exact fun x => nomatch x
    · simpa using h
  · intro h
    refine wpAny_richCompare_same_room (op := .NotEq) da.typeIs db.typeIs PySem.F.slot_dict_ne (wpAny_call_entry PySem.F.slot_dict_ne da.typeIs PySem.F.entry_dict_ne ?_ (PySem.F.args_dict_ne_2 _ _)) hu
    show wpAny _ _ (Builtin.Dict.dictSlotArgs "__ne__" ⟨[.ref a, .ref b], []⟩ >>= _) _ _ s
    refine wpAny_bind ?_
    unfold Builtin.Dict.dictSlotArgs
    refine wpAny_bind (wpAny_notOrdered_dict da.typeIs ?_)
    show wpAny _ _ (pure (Value.ref a, Value.ref b)) _ _ s
    refine wpAny_pure ?_
    refine wpAny_bind (wpAny_isInstance (T := "dict") db.typeIs PySem.F.sub_dict_dict ?_)
    simp only [Bool.not_true, Bool.false_eq_true, if_false]
    refine wpAny_bind (wpAny_pure (wpAny_bind (wpAny_pure ?_)))
    refine wpAny_bind (samePairs0 ha hb da db h0 ?_)
    refine wpAny_pure ⟨_, rfl, ?_, ?_⟩
    · exact fun x => nomatch x
    · simpa using h
end
/-- a dict of n entries at a -/
def DLen (H : Hp) (a : Addr) (n : Nat) : Prop := (∃ kvs, Rd H a (.dK kvs) ∧ kvs.length = n) ∨ ∃ kvs, Rd H a (.dT kvs) ∧ kvs.length = n
theorem dlen_raw {X : Cx} {pins : List (Addr × Obj)} {σ : L2.St} {H : Hp} {s : Shared} {a : Addr} {n : Nat} (I : Inv X pins σ H s) (h : DLen H a n) : (a == sysModules) = false ∧ n ≤ sizeLine ∧ ∃ es ep, DT.Raw s.heap a es ep ∧ es.size = n := by
  rcases h with ⟨kvs, e, rfl⟩ | ⟨kvs, e, rfl⟩
  · obtain ⟨z, hd, vs, kv, o, es, ep, ho, hx, hdt, r⟩ := dk_rd I.hok e
    refine ⟨hd, z, es, ep, ⟨o, ho, hx, hdt⟩, ?_⟩
    have l1 := r.2.1.length
    have l2 : kvs.length = vs.length := Paired.length kv
    rw [Array.length_toList] at l1
    omega
  · obtain ⟨z, hd, xs, pr, o, es, ep, ho, hx, hdt, he, _⟩ := dt_rd I.hok e
    refine ⟨hd, z, es, ep, ⟨o, ho, hx, hdt⟩, ?_⟩
    have l1 : es.size = xs.length := size_of_entries he
    have l2 : kvs.length = xs.length := Paired.length pr
    omega
def rEqD0 : R2 := fun x y H Q => ∃ a b n m, x = .ref a ∧ y = .ref b ∧ DLen H a n ∧ DLen H b m ∧ (n = 0 ∨ m = 0) ∧ Q (.bl (n == m)) H
def rNeD0 : R2 := fun x y H Q => ∃ a b n m, x = .ref a ∧ y = .ref b ∧ DLen H a n ∧ DLen H b m ∧ (n = 0 ∨ m = 0) ∧ Q (.bl (!(n == m))) H
theorem op_eqD0 {X : Cx} (hu : X.A.units < cLine) : OpR X (compareOp .Eq) rEqD0 := by
  intro pins s σ H x y v u Q I rx ry h
  obtain ⟨a, b, n, m, rfl, rfl, ea, eb, h0, q⟩ := h
  obtain rfl : v = Value.ref a := rx
  obtain rfl : u = Value.ref b := ry
  obtain ⟨ha, _, es, ep, ra, rfl⟩ := dlen_raw I ea
  obtain ⟨hb, _, es', ep', rb, rfl⟩ := dlen_raw I eb
  exact (cmp0 ha hb ra rb hu h0).1 ⟨.bl _, H, I, rfl, q⟩
theorem op_neD0 {X : Cx} (hu : X.A.units < cLine) : OpR X (compareOp .NotEq) rNeD0 := by
  intro pins s σ H x y v u Q I rx ry h
  obtain ⟨a, b, n, m, rfl, rfl, ea, eb, h0, q⟩ := h
  obtain rfl : v = Value.ref a := rx
  obtain rfl : u = Value.ref b := ry
  obtain ⟨ha, _, es, ep, ra, rfl⟩ := dlen_raw I ea
  obtain ⟨hb, _, es', ep', rb, rfl⟩ := dlen_raw I eb
  exact (cmp0 ha hb ra rb hu h0).2 ⟨.bl _, H, I, rfl, q⟩

/-! ### tables of data -/
def keyA : D → Option Key
  | .int i => some (.inl i)
  | .str x => some (.inr x)
  | _ => none
def keysA : List D → Option (List Key)
  | [] => some []
  | d :: r => (keyA d).bind fun k => (keysA r).map (k :: ·)
def keyT : D → Option (List Key)
  | .tup ds => keysA ds
  | _ => none
theorem keyA_kD (k : Key) : keyA (kD k) = some k := by cases k <;> rfl
theorem keysA_map : ∀ ks : List Key, keysA (ks.map kD) = some ks
  | [] => rfl
  | k :: ks => by simp only [List.map_cons, keysA, keyA_kD, keysA_map ks, Option.bind_some, Option.map_some]
theorem keyA_eq {d : D} {k : Key} (h : keyA d = some k) : d = kD k := by
  cases d <;> simp only [keyA, reduceCtorEq, Option.some.injEq] at h <;> subst h <;> rfl
theorem keysA_eq : ∀ {ds : List D} {ks : List Key}, keysA ds = some ks → ds = ks.map kD
  | [], ks, h => by simp only [keysA, Option.some.injEq] at h; subst h; rfl
  | d :: r, ks, h => by
    simp only [keysA, Option.bind_eq_some_iff, Option.map_eq_some_iff] at h
    obtain ⟨k, h1, rs, h2, rfl⟩ := h
    rw [List.map_cons, ← keysA_eq h2, keyA_eq h1]
theorem keyT_eq {d : D} {ks : List Key} (h : keyT d = some ks) : d = .tup (ks.map kD) := by
  cases d <;> simp only [keyT, reduceCtorEq] at h
  rw [keysA_eq h]
def hasK (t : Bool) (a b : D) : Bool := if t = true then decide (keyT a = keyT b) else decide (keyA a = keyA b)
def okK (t : Bool) (k : D) : Bool := if t = true then (keyT k).isSome else (keyA k).isSome
def lookD (t : Bool) (kvs : List (D × D)) (k : D) : Option D := (kvs.find? fun kv => hasK t kv.1 k).map (·.2)
def putD (t : Bool) (kvs : List (D × D)) (k v : D) : List (D × D) :=
  if (kvs.any fun kv => hasK t kv.1 k) = true then kvs.map (fun kv => if hasK t kv.1 k = true then (kv.1, v) else kv) else kvs ++ [(k, v)]
theorem hasK_A (a b : Key) : hasK false (kD a) (kD b) = decide (a = b) := by
  unfold hasK; rw [if_neg (by decide), keyA_kD, keyA_kD]; simp
theorem hasK_T (a b : List Key) : hasK true (.tup (a.map kD)) (.tup (b.map kD)) = decide (a = b) := by
  unfold hasK; rw [if_pos rfl]; simp only [keyT, keysA_map, Option.some.injEq]
theorem lookD_neg {t : Bool} {p : D × D} {kvs : List (D × D)} {k : D} (h : hasK t p.1 k = false) : lookD t (p :: kvs) k = lookD t kvs k := by
  unfold lookD; rw [List.find?_cons, h]
theorem lookD_pos {t : Bool} {p : D × D} {kvs : List (D × D)} {k : D} (h : hasK t p.1 k = true) : lookD t (p :: kvs) k = some p.2 := by
  unfold lookD; rw [List.find?_cons, h]; rfl
section
variable {K : PySem.W.Frag} {q : Qa} {F : Hp}
theorem RepKv.look (k : Key) : ∀ {kv : List (Key × V)} {kvs : List (D × D)}, RepKv K q F kv kvs → (valV kv k = none ∧ lookD false kvs (kD k) = none) ∨ ∃ v d, valV kv k = some v ∧ lookD false kvs (kD k) = some d ∧ Rep K q F v d
  | _, _, .nil => .inl ⟨rfl, rfl⟩
  | _, _, .cons (k := k') h r => by
    by_cases e : k' = k
    · refine .inr ⟨_, _, valV_pos e, ?_, h⟩
      simp [lookD, List.find?_cons, hasK_A, e]
    · have h2 := RepKv.look k r
      rw [valV_neg e]
      rwa [lookD_neg (by rw [hasK_A]; simp [e])]
theorem RepKt.look (k : List Key) : ∀ {kv : List (List Key × V)} {kvs : List (D × D)}, RepKt K q F kv kvs → (valV kv k = none ∧ lookD true kvs (.tup (k.map kD)) = none) ∨ ∃ v d, valV kv k = some v ∧ lookD true kvs (.tup (k.map kD)) = some d ∧ Rep K q F v d
  | _, _, .nil => .inl ⟨rfl, rfl⟩
  | _, _, .cons (k := k') h r => by
    by_cases e : k' = k
    · refine .inr ⟨_, _, valV_pos e, ?_, h⟩
      simp [lookD, List.find?_cons, hasK_T, e]
    · have h2 := RepKt.look k r
      rw [valV_neg e]
      rwa [lookD_neg (by rw [hasK_T]; simp [e])]
theorem RepKv.any (k : Key) : ∀ {kv : List (Key × V)} {kvs : List (D × D)}, RepKv K q F kv kvs → (kv.any fun x => decide (x.1 = k)) = kvs.any fun x => hasK false x.1 (kD k)
  | _, _, .nil => rfl
  | _, _, .cons h r => by rw [List.any_cons, List.any_cons, RepKv.any k r, hasK_A]
theorem RepKt.any (k : List Key) : ∀ {kv : List (List Key × V)} {kvs : List (D × D)}, RepKt K q F kv kvs → (kv.any fun x => decide (x.1 = k)) = kvs.any fun x => hasK true x.1 (.tup (k.map kD))
  | _, _, .nil => rfl
  | _, _, .cons h r => by rw [List.any_cons, List.any_cons, RepKt.any k r, hasK_T]
theorem RepKv.repl {k : Key} {v : V} {d : D} (rv : Rep K q F v d) : ∀ {kv : List (Key × V)} {kvs : List (D × D)}, RepKv K q F kv kvs → RepKv K q F (kv.map fun x => if x.1 = k then (x.1, v) else x) (kvs.map fun x => if hasK false x.1 (kD k) = true then (x.1, d) else x)
  | _, _, .nil => .nil
  | _, _, .cons (k := k') h r => by
    rw [List.map_cons, List.map_cons, hasK_A]
    by_cases e : k' = k
    · rw [if_pos e, if_pos (by simp [e])]; exact .cons rv (RepKv.repl rv r)
    · rw [if_neg e, if_neg (by simp [e])]; exact .cons h (RepKv.repl rv r)
theorem RepKt.repl {k : List Key} {v : V} {d : D} (rv : Rep K q F v d) : ∀ {kv : List (List Key × V)} {kvs : List (D × D)}, RepKt K q F kv kvs → RepKt K q F (kv.map fun x => if x.1 = k then (x.1, v) else x) (kvs.map fun x => if hasK true x.1 (.tup (k.map kD)) = true then (x.1, d) else x)
  | _, _, .nil => .nil
  | _, _, .cons (k := k') h r => by
    rw [List.map_cons, List.map_cons, hasK_T]
    by_cases e : k' = k
    · rw [if_pos e, if_pos (by simp [e])]; exact .cons rv (RepKt.repl rv r)
    · rw [if_neg e, if_neg (by simp [e])]; exact .cons h (RepKt.repl rv r)
theorem RepKv.snoc {k : Key} {v : V} {d : D} (rv : Rep K q F v d) : ∀ {kv : List (Key × V)} {kvs : List (D × D)}, RepKv K q F kv kvs → RepKv K q F (kv ++ [(k, v)]) (kvs ++ [(kD k, d)])
  | _, _, .nil => .cons rv .nil
  | _, _, .cons h r => .cons h (RepKv.snoc rv r)
theorem RepKt.snoc {k : List Key} {v : V} {d : D} (rv : Rep K q F v d) : ∀ {kv : List (List Key × V)} {kvs : List (D × D)}, RepKt K q F kv kvs → RepKt K q F (kv ++ [(k, v)]) (kvs ++ [(.tup (k.map kD), d)])
  | _, _, .nil => .cons rv .nil
  | _, _, .cons h r => .cons h (RepKt.snoc rv r)
theorem RepKv.put {k : Key} {v : V} {d : D} {kv : List (Key × V)} {kvs : List (D × D)} (r : RepKv K q F kv kvs) (rv : Rep K q F v d) : RepKv K q F (putK kv k v) (putD false kvs (kD k) d) := by
  unfold putK putD
  rw [r.any k]
  by_cases e : (kvs.any fun x => hasK false x.1 (kD k)) = true
  · rw [if_pos e, if_pos e]; exact r.repl rv
  · rw [if_neg e, if_neg e]; exact r.snoc rv
theorem RepKt.put {k : List Key} {v : V} {d : D} {kv : List (List Key × V)} {kvs : List (D × D)} (r : RepKt K q F kv kvs) (rv : Rep K q F v d) : RepKt K q F (putK kv k v) (putD true kvs (.tup (k.map kD)) d) := by
  unfold putK putD
  rw [r.any k]
  by_cases e : (kvs.any fun x => hasK true x.1 (.tup (k.map kD))) = true
  · rw [if_pos e, if_pos e]; exact r.repl rv
  · rw [if_neg e, if_neg e]; exact r.snoc rv
theorem RepKv.length : ∀ {kv : List (Key × V)} {kvs : List (D × D)}, RepKv K q F kv kvs → kv.length = kvs.length
  | _, _, .nil => rfl
  | _, _, .cons h r => congrArg (· + 1) (RepKv.length r)
theorem RepKt.length : ∀ {kv : List (List Key × V)} {kvs : List (D × D)}, RepKt K q F kv kvs → kv.length = kvs.length
  | _, _, .nil => rfl
  | _, _, .cons h r => congrArg (· + 1) (RepKt.length r)
theorem RepKv.get : ∀ {kv : List (Key × V)} {kvs : List (D × D)} {i : Nat} {k : Key} {v : V}, RepKv K q F kv kvs → kv[i]? = some (k, v) → ∃ d, kvs[i]? = some (kD k, d) ∧ Rep K q F v d
  | _, _, i, _, _, .nil, e => by simp at e
  | _, _, 0, _, _, .cons h r, e => by simp at e; obtain ⟨rfl, rfl⟩ := e; exact ⟨_, rfl, h⟩
  | _, _, i + 1, _, _, .cons h r, e => by
    obtain ⟨d, h1, h2⟩ := RepKv.get (i := i) r (by simpa using e)
    exact ⟨d, by simpa using h1, h2⟩
theorem RepKt.get : ∀ {kv : List (List Key × V)} {kvs : List (D × D)} {i : Nat} {k : List Key} {v : V}, RepKt K q F kv kvs → kv[i]? = some (k, v) → ∃ d, kvs[i]? = some (.tup (k.map kD), d) ∧ Rep K q F v d
  | _, _, i, _, _, .nil, e => by simp at e
  | _, _, 0, _, _, .cons h r, e => by simp at e; obtain ⟨rfl, rfl⟩ := e; exact ⟨_, rfl, h⟩
  | _, _, i + 1, _, _, .cons h r, e => by
    obtain ⟨d, h1, h2⟩ := RepKt.get (i := i) r (by simpa using e)
    exact ⟨d, by simpa using h1, h2⟩
theorem reps_keys : ∀ ks : List Key, Reps K q F (ks.map kV) (ks.map kD)
  | [] => .nil
  | .inl i :: ks => .cons (.int i) (reps_keys ks)
  | .inr x :: ks => .cons (.str x) (reps_keys ks)
theorem Reps.keys {vs : List V} : ∀ {ks : List Key}, Reps K q F vs (ks.map kD) → vs = ks.map kV := by
  intro ks
  induction ks generalizing vs with
  | nil => intro h; cases h; rfl
  | cons n ns ih =>
    intro h
    cases h with
    | cons h r =>
      cases n with
      | inl i => cases h; rw [ih r]; rfl
      | inr i => cases h; rw [ih r]; rfl
end
end FL
end
section
/-! FL: dicts: rules. -/
namespace FL
open PySem PySem.Spec PyProof.Rows L2
theorem bnd_at' {α β : Type} {m : M α} {k : α → M β} {ω ω1 : Ora} {a : α} (e : m ω = some (a, ω1)) : bnd m k ω = k a ω1 := by unfold bnd; rw [e]
section
variable {K : PySem.W.Frag} {q : Qa} {F H : Hp} {v : V}
theorem Vw.dk {kvs : List (D × D)} (h : Vw K q F H v (.dic false kvs)) (s : Same F H) : ∃ p kv, v = .ref p ∧ Rd H p (.dK kv) ∧ RepKv K q F kv kvs := by
  rcases h with h | ⟨p, rfl, h1, h2, kv, e, r⟩
  · cases h with
    | dic e r => exact ⟨_, _, rfl, .inr ⟨_, s _ _ e⟩, r⟩
  · exact ⟨p, kv, rfl, .inl e, r⟩
theorem Vw.dt {kvs : List (D × D)} (h : Vw K q F H v (.dic true kvs)) (s : Same F H) : ∃ p kv, v = .ref p ∧ Rd H p (.dT kv) ∧ RepKt K q F kv kvs := by
  rcases h with h | ⟨p, rfl, h1, h2, kv, e, r⟩
  · cases h with
    | dit e r => exact ⟨_, _, rfl, .inr ⟨_, s _ _ e⟩, r⟩
  · exact ⟨p, kv, rfl, .inl e, r⟩
theorem Vw.key {k : Key} (h : Vw K q F H v (kD k)) : v = kV k := by
  rcases h with h | ⟨p, rfl, h1, h2, h3⟩
  · cases k <;> cases h <;> rfl
  · cases k <;> exact h3.elim
theorem Vw.keyT {ks : List Key} (h : Vw K q F H v (.tup (ks.map kD))) (s : Same F H) : ∃ b, v = .ref b ∧ H b = some (.tup (ks.map kV)) := by
  rcases h with h | ⟨p, rfl, h1, h2, h3⟩
  · cases h with
    | tup e r => cases r.keys; exact ⟨_, rfl, s _ _ e⟩
  · exact h3.elim
/-- what a dict holds -/
theorem dget_of {t : Bool} {kvs : List (D × D)} {k : D} {y : V} (h : Vw K q F H v (.dic t kvs)) (hy : Vw K q F H y k) (s : Same F H) (ok : okK t k = true) :
    ∃ a o, v = .ref a ∧ DGet H a y o ∧ ((o = none ∧ lookD t kvs k = none) ∨ ∃ u d, o = some u ∧ lookD t kvs k = some d ∧ Rep K q F u d) := by
  cases t with
  | false =>
    unfold okK at ok
    rw [if_neg (by decide), Option.isSome_iff_exists] at ok
    obtain ⟨key, hk⟩ := ok
    cases keyA_eq hk
    obtain ⟨p, kv, rfl, e, r⟩ := h.dk s
    cases hy.key
    exact ⟨p, valV kv key, rfl, .inl ⟨kv, key, e, rfl, rfl⟩, r.look key⟩
  | true =>
    unfold okK at ok
    rw [if_pos rfl, Option.isSome_iff_exists] at ok
    obtain ⟨key, hk⟩ := ok
    cases keyT_eq hk
    obtain ⟨p, kv, rfl, e, r⟩ := h.dt s
    obtain ⟨b, rfl, hb⟩ := hy.keyT s
    exact ⟨p, valV kv key, rfl, .inr ⟨kv, key, b, e, rfl, hb, rfl⟩, r.look key⟩
end
/-! ### {} -/
section
variable {X : Cx} {pos : Pos}
theorem f_dnewK : PE X (.Dict [] [] pos) (tF X.K (cst (.dic false []))) := pe_weak pe_dnewK fun σ H Q ⟨c, F, ρ, ω, d, ω', w, e, q⟩ => by
  obtain ⟨rfl, rfl⟩ := ret_some e
  exact fun p hp => q F _ p (Post.fresh w.post.le w.post.ora hp) hp (same_none w.post.le hp) ⟨[], upd_same, .nil⟩
theorem f_dnewT : PE X (.Dict [] [] pos) (tF X.K (cst (.dic true []))) := pe_weak pe_dnewT fun σ H Q ⟨c, F, ρ, ω, d, ω', w, e, q⟩ => by
  obtain ⟨rfl, rfl⟩ := ret_some e
  exact fun p hp => q F _ p (Post.fresh w.post.le w.post.ora hp) hp (same_none w.post.le hp) ⟨[], upd_same, .nil⟩
end
/-! ### d[k] -/
def rDGet : R2 := fun x y H Q => ∃ a v, x = .ref a ∧ DGet H a y (some v) ∧ Q v H
def dDGet : D → D → Option D
  | .dic t kvs, k => if okK t k = true then lookD t kvs k else none
  | _, _ => none
def dIxA (a b : D) : Option D := match a with
  | .dic t kvs => if okK t b = true then lookD t kvs b else none
  | a => dIx a b
theorem dget_pure {K : PySem.W.Frag} : Pure2 K rDGet dDGet := by
  intro q F H ω x y a b d Q hs ho hx hy e k
  cases a <;> simp only [dDGet, reduceCtorEq] at e
  split at e
  · rename_i ok
    obtain ⟨a, o, rfl, g, h⟩ := dget_of hx hy hs ok
    rcases h with ⟨_, h⟩ | ⟨u, d', rfl, h1, h2⟩
    · rw [h] at e; cases e
    · rw [h1] at e; cases e
      exact ⟨a, u, rfl, g, k F H _ (.mk0 hs ho) h2⟩
  · cases e
theorem dIxA_not {a b : D} (h : isDic a = false) : dIxA a b = dIx a b := by cases a <;> first | rfl | cases h
theorem dIxA_dic {a b : D} (h : isDic a = true) : dIxA a b = dDGet a b := by cases a <;> first | rfl | cases h
section
variable {X : Cx} {e a b : Expr} {f g h : EF} {pos : Pos}
theorem pe_or {t t' : TE} (h1 : PE X e t) (h2 : PE X e t') : PE X e (fun σ H Q => t σ H Q ∨ t' σ H Q) := ⟨fun pins s σ H Q I q => by
  rcases q with q | q
  · exact h1.run pins s σ H Q I q
  · exact h2.run pins s σ H Q I q⟩
theorem e_ixA (hu : X.A.units + 65 < cLine) (ha : PE X a (tB X.K f)) (hb : PE X b (tB X.K g)) (hs : PlainIx b := by exact fun _ _ => rfl) (hn : NoSl b := by exact fun _ _ => rfl) : PE X (.Subscript a b pos) (tE X.K (b2 dIxA f g)) :=
  pe_weak (pe_or (pe_ix ix_seq ha hb hs) (pe_dget (by omega) ha hb hn)) fun σ H Q ⟨c, F, ρ, ω, d, ω', w, e, q⟩ => by
    obtain ⟨x, ω1, e1, e⟩ := bnd_some e
    obtain ⟨y, ω2, e2, e⟩ := bnd_some e
    obtain ⟨e3, rfl⟩ := opt_some e
    cases nd : isDic x with
    | false =>
      rw [dIxA_not nd] at e3
      exact .inl (two_core ix_pure (fun _ _ _ h => h) (fun _ _ _ h => h) σ H Q ⟨c, F, ρ, ω, d, _, w, by unfold b2; rw [bnd_at' e1, bnd_at' e2, e3]; rfl, q⟩)
    | true =>
      rw [dIxA_dic nd] at e3
      exact .inr (two_core (r := rDGet) dget_pure (fun _ _ _ h => h) (fun _ _ _ h => h) σ H Q ⟨c, F, ρ, ω, d, _, w, by unfold b2; rw [bnd_at' e1, bnd_at' e2, e3]; rfl, q⟩)
end
/-! ### k in d -/
def rDIn : R2 := fun x y H Q => ∃ a o, y = .ref a ∧ DGet H a x o ∧ Q (.bl o.isSome) H
def rDNotIn : R2 := fun x y H Q => ∃ a o, y = .ref a ∧ DGet H a x o ∧ Q (.bl (!o.isSome)) H
theorem op_dIn {X : Cx} (hu : X.A.units + 65 < cLine) : OpR X (compareOp .In) rDIn := by
  intro pins s σ H x y v u Q I rx ry h
  obtain ⟨a, o, rfl, g, q⟩ := h
  obtain rfl : u = Value.ref a := ry
  exact d_in (by omega) I g rx fun s3 I3 => ⟨.bl o.isSome, H, I3, rfl, q⟩
theorem op_dNotIn {X : Cx} (hu : X.A.units + 65 < cLine) : OpR X (compareOp .NotIn) rDNotIn := by
  intro pins s σ H x y v u Q I rx ry h
  obtain ⟨a, o, rfl, g, q⟩ := h
  obtain rfl : u = Value.ref a := ry
  exact d_notIn (by omega) I g rx fun s3 I3 => ⟨.bl (!o.isSome), H, I3, rfl, q⟩
abbrev rInB (K : PySem.W.Frag) : R2 := fun x y H Q => rInA K x y H Q ∨ rDIn x y H Q
abbrev rNotInB (K : PySem.W.Frag) : R2 := fun x y H Q => rNotInA K x y H Q ∨ rDNotIn x y H Q
theorem op_inB {X : Cx} (hu : X.A.units + 65 < cLine) : OpR X (compareOp .In) (rInB X.K) := (op_inA hu).or (op_dIn hu)
theorem op_notInB {X : Cx} (hu : X.A.units + 65 < cLine) : OpR X (compareOp .NotIn) (rNotInB X.K) := (op_notInA hu).or (op_dNotIn hu)
def dInB (a b : D) : Option D := match b with
  | .dic t kvs => if okK t a = true then some (.bl (lookD t kvs a).isSome) else none
  | b => dInA a b
def dNotInB (a b : D) : Option D := match b with
  | .dic t kvs => if okK t a = true then some (.bl (!(lookD t kvs a).isSome)) else none
  | b => dNotInA a b
theorem inB_pure {K : PySem.W.Frag} : Pure2 K (rInB K) dInB := by
  intro q F H ω x y a b d Q hs ho hx hy e k
  unfold dInB at e
  split at e
  · split at e
    · rename_i ok
      cases e
      obtain ⟨a, o, rfl, g, h⟩ := dget_of hy hx hs ok
      refine .inr ⟨a, o, rfl, g, k F H _ (.mk0 hs ho) ?_⟩
      rcases h with ⟨rfl, h⟩ | ⟨u, d', rfl, h1, h2⟩
      · rw [h]; exact .bl _
      · rw [h1]; exact .bl _
    · cases e
  · exact .inl (inA_pure q F H ω x y a b d Q hs ho hx hy e k)
theorem notInB_pure {K : PySem.W.Frag} : Pure2 K (rNotInB K) dNotInB := by
  intro q F H ω x y a b d Q hs ho hx hy e k
  unfold dNotInB at e
  split at e
  · split at e
    · rename_i ok
      cases e
      obtain ⟨a, o, rfl, g, h⟩ := dget_of hy hx hs ok
      refine .inr ⟨a, o, rfl, g, k F H _ (.mk0 hs ho) ?_⟩
      rcases h with ⟨rfl, h⟩ | ⟨u, d', rfl, h1, h2⟩
      · rw [h]; exact .bl _
      · rw [h1]; exact .bl _
    · cases e
  · exact .inl (notInA_pure q F H ω x y a b d Q hs ho hx hy e k)
/-! ### d == {}, d != {} -/
def dLenD : D → Option Nat
  | .dic _ kvs => some kvs.length
  | _ => none
theorem dlen_of {K : PySem.W.Frag} {q : Qa} {F H : Hp} {v : V} {t : Bool} {kvs : List (D × D)} (h : Vw K q F H v (.dic t kvs)) (s : Same F H) : ∃ a, v = .ref a ∧ DLen H a kvs.length := by
  cases t with
  | false => obtain ⟨p, kv, rfl, e, r⟩ := h.dk s; exact ⟨p, rfl, .inl ⟨kv, e, r.length⟩⟩
  | true => obtain ⟨p, kv, rfl, e, r⟩ := h.dt s; exact ⟨p, rfl, .inr ⟨kv, e, r.length⟩⟩
abbrev rEqB (K : PySem.W.Frag) : R2 := fun x y H Q => rEqD K x y H Q ∨ rEqD0 x y H Q
abbrev rNeB (K : PySem.W.Frag) : R2 := fun x y H Q => rNeD K x y H Q ∨ rNeD0 x y H Q
theorem op_eqB {X : Cx} (hu : X.A.units + 65 < cLine) (h : OpR X (compareOp .Eq) (rEqD X.K)) : OpR X (compareOp .Eq) (rEqB X.K) := h.or (op_eqD0 (by omega))
theorem op_neB {X : Cx} (hu : X.A.units + 65 < cLine) (h : OpR X (compareOp .NotEq) (rNeD X.K)) : OpR X (compareOp .NotEq) (rNeB X.K) := h.or (op_neD0 (by omega))
def dEqB (a b : D) : Option D := match a, b with
  | .dic _ ks, .dic _ ls => if ks.length = 0 ∨ ls.length = 0 then some (.bl (ks.length == ls.length)) else none
  | a, b => dEq a b
def dNeB (a b : D) : Option D := match a, b with
  | .dic _ ks, .dic _ ls => if ks.length = 0 ∨ ls.length = 0 then some (.bl (!(ks.length == ls.length))) else none
  | a, b => dNe a b
theorem eqB_pure {K : PySem.W.Frag} : Pure2 K (rEqB K) dEqB := by
  intro q F H ω x y a b d Q hs ho hx hy e k
  unfold dEqB at e
  split at e
  · split at e
    · rename_i h0
      cases e
      obtain ⟨a, rfl, h1⟩ := dlen_of hx hs
      obtain ⟨b, rfl, h2⟩ := dlen_of hy hs
      exact .inr ⟨a, b, _, _, rfl, rfl, h1, h2, h0, k F H _ (.mk0 hs ho) (.bl _)⟩
    · cases e
  · exact .inl (eq_pure q F H ω x y a b d Q hs ho hx hy e k)
theorem neB_pure {K : PySem.W.Frag} : Pure2 K (rNeB K) dNeB := by
  intro q F H ω x y a b d Q hs ho hx hy e k
  unfold dNeB at e
  split at e
  · split at e
    · rename_i h0
      cases e
      obtain ⟨a, rfl, h1⟩ := dlen_of hx hs
      obtain ⟨b, rfl, h2⟩ := dlen_of hy hs
      exact .inr ⟨a, b, _, _, rfl, rfl, h1, h2, h0, k F H _ (.mk0 hs ho) (.bl _)⟩
    · cases e
  · exact .inl (ne_pure q F H ω x y a b d Q hs ho hx hy e k)
/-! ### len(d) -/
def rLenDD : List V → Hp → VK → Prop := fun xs H Q => ∃ a n, xs = [.ref a] ∧ DLen H a n ∧ Q (.int ((n : Nat) : Int)) H
theorem call_lenDD {X : Cx} : CallR X (.builtin "len") rLenDD := by
  intro pins s σ H xs us Q I r h
  obtain ⟨a, n, rfl, h, q⟩ := h
  obtain ⟨u, rfl, ru⟩ := vals1 r
  cases ru
  rcases h with ⟨kvs, e, rfl⟩ | ⟨kvs, e, rfl⟩
  · exact d_len I e fun t s' I' => ⟨.int kvs.length, H, I', ⟨t, rfl⟩, q⟩
  · obtain ⟨z, hd, ys, rel, dd⟩ := dt_rd I.hok e
    have hl : kvs.length = ys.length := Paired.length rel
    refine call_len_dictH hd dd (by rw [← hl]; rw [sizeLine_eq] at z; omega) ?_
    rw [← hl]
    exact ⟨.int ((kvs.length : Nat) : Int), H, I.tok _, ⟨_, rfl⟩, q⟩
def aLenB : List D → Option D
  | [.dic _ kvs] => some (.int kvs.length)
  | l => aLen l
abbrev rLenB (K : PySem.W.Frag) : List V → Hp → VK → Prop := fun xs H Q => rLen K xs H Q ∨ rLenDD xs H Q
theorem call_lenB {X : Cx} : CallR X (.builtin "len") (rLenB X.K) := CallR.or call_len_seq call_lenDD
theorem lenB_pure {K : PySem.W.Frag} : PureA K (rLenB K) aLenB := by
  intro q F H ω xs a d Q hs ho hx e k
  unfold aLenB at e
  split at e
  · cases e
    obtain ⟨v, rfl, hv⟩ := hx.one
    obtain ⟨p, rfl, h1⟩ := dlen_of hv hs
    exact .inr ⟨p, _, rfl, h1, k F H _ (.mk0 hs ho) (.int _)⟩
  · exact .inl (len_pure q F H ω xs a d Q hs ho hx e k)
/-! ### d.get(k, x) -/
def dGet3 (a k z : D) : Option D := match a with
  | .dic t kvs => if okK t k = true then some ((lookD t kvs k).getD z) else none
  | _ => none
def getE (f g h : EF) : EF := fun ρ => bnd (f ρ) fun a => bnd (g ρ) fun k => bnd (h ρ) fun z => opt (dGet3 a k z)
section
variable {X : Cx} {o i e : Expr} {f g h : EF} {apos cpos : Pos}
theorem isD_of {K : PySem.W.Frag} {q : Qa} {F H : Hp} {v : V} {t : Bool} {kvs : List (D × D)} (h : Vw K q F H v (.dic t kvs)) (s : Same F H) : ∃ a, v = .ref a ∧ IsD H a := by
  cases t with
  | false => obtain ⟨p, kv, rfl, e, r⟩ := h.dk s; exact ⟨p, rfl, .inl ⟨kv, e⟩⟩
  | true => obtain ⟨p, kv, rfl, e, r⟩ := h.dt s; exact ⟨p, rfl, .inr ⟨kv, e⟩⟩
theorem e_dget3 (hu : X.A.units + 65 < cLine) (ho : PE X o (tB X.K f)) (hi : PE X i (tB X.K g)) (he : PE X e (tE X.K h)) (m : M2 X o "get" apos i e cpos := by exact ⟨rfl, rfl, rfl, rfl⟩) :
    PE X (.Call (.Attribute o "get" apos) [i, e] [] cpos) (tE X.K (getE f g h)) := pe_weak (pe_dget2 (by omega) ho hi he m) fun σ H Q ⟨c, F, ρ, ω, d, ω', w, e, q⟩ => by
  obtain ⟨a, ω1, e1, e⟩ := bnd_some e
  obtain ⟨k, ω2, e2, e⟩ := bnd_some e
  obtain ⟨z, ω3, e3, e⟩ := bnd_some e
  obtain ⟨e4, rfl⟩ := opt_some e
  unfold dGet3 at e4
  split at e4
  · split at e4
    · rename_i ok
      cases e4
      refine ⟨c, F, ρ, ω, _, ω1, w, e1, fun F1 H1 v p1 r1 => ?_⟩
      obtain ⟨p, rfl, hd⟩ := isD_of r1 p1.le
      refine ⟨p, rfl, hd, c, F1, ρ, ω1, k, ω2, w.ext p1, e2, fun F2 H2 y p2 r2 => ⟨c, F2, ρ, ω2, z, _, (w.ext p1).ext p2, e3, fun F3 H3 u p3 r3 => ?_⟩⟩
      obtain ⟨a', o, ea, g, hh⟩ := dget_of (r1.ext (p2.trans p3)) (r2.ext p3) p3.le ok
      cases ea
      refine ⟨o, g, ?_⟩
      rcases hh with ⟨rfl, h1⟩ | ⟨u', d', rfl, h1, h2⟩
      · rw [h1] at q; exact q F3 H3 _ ((p1.trans p2).trans p3) r3
      · rw [h1] at q; exact q F3 H3 _ ((p1.trans p2).trans p3) h2
    · cases e4
  · cases e4
end
/-! ### d[k] = v, l[i] = v -/
def putO : SV → D → D → Option D
  | .o (.dic t kvs), k, v => if (okK t k && decide (kvs.length < sizeLine)) = true then some (.dic t (putD t kvs k v)) else none
  | x, k, v => setIO x k v
theorem putO_some {x : SV} {k v l : D} (h : putO x k v = some l) : (∃ t kvs, x = .o (.dic t kvs) ∧ okK t k = true ∧ kvs.length < sizeLine ∧ l = .dic t (putD t kvs k v)) ∨ setIO x k v = some l := by
  unfold putO at h
  split at h
  · split at h
    · rename_i ok
      rw [Bool.and_eq_true, decide_eq_true_eq] at ok
      cases h
      exact .inl ⟨_, _, rfl, ok.1, ok.2, rfl⟩
    · cases h
  · exact .inr h
def setIA (i : Nat) (f g : EF) : SF := fun ρ => bnd (g ρ) fun v => bnd (f ρ) fun k => bnd (opt (putO (nth ρ i) k v)) fun l => ret (.nx (sset ρ i (.o l)))
section
variable {X : Cx} {o ix e : Expr} {f g : EF} {pos : Pos}
theorem ps_or {st : Stmt} {t t' : TS} (h1 : PS X st t) (h2 : PS X st t') : PS X st (fun D σ H => t D σ H ∨ t' D σ H) := ⟨fun pins s σ H D I q => by
  rcases q with q | q
  · exact h1.run pins s σ H D I q
  · exact h2.run pins s σ H D I q⟩
theorem s_dput (i : Nat) {p2 : Pos} (hu : X.A.units + 65 < cLine) (ho : PE X o (tVar i)) (hi : PE X ix (tB X.K f)) (he : PE X e (tE X.K g))
    (hs : swapsWithSole [.Subscript o ix p2] e pos.line X.env = pure false := by rfl) (hw : swappedStores [.Subscript o ix p2] e X.env = pure none := by rfl)
    (h1 : (assignEach [.Subscript o ix p2] X.env).map (·.2) = [assign (.Subscript o ix p2) X.env] := by rfl)
    (ha : ∀ v, assign (.Subscript o ix p2) X.env v = (do
      let ov ← holding [v] (eval o X.env)
      let iv ← holding [v, ov] (eval ix X.env)
      standAt p2
      holding [v, ov, iv] (setItem ov iv v)
      release [v, ov, iv] []) := by intro _; rfl)
    (hsw : swapsWith e (some (.Subscript o ix p2)) pos.line X.env = pure false := by rfl) :
    PS X (.Assign [.Subscript o ix p2] e pos) (tS X.K (setIA i f g)) := ps_weak (ps_or (s_setI i ho hi he hs hw h1 ha) (ps_dput (by omega) ho hi he hsw)) fun D σ H ⟨c, F, ρ, ω, o, ω', w, e, k⟩ => by
  obtain ⟨d, ω1, e1, e⟩ := bnd_some e
  obtain ⟨kx, ω2, e2, e⟩ := bnd_some e
  obtain ⟨l, ω3, e3, e⟩ := bnd_some e
  obtain ⟨rfl, rfl⟩ := ret_some e
  obtain ⟨e4, rfl⟩ := opt_some e3
  rcases putO_some e4 with ⟨t, kvs, hn, ok1, ok2, rfl⟩ | e4
  · right
    obtain ⟨p, h1, h2⟩ := w.ow i _ hn
    refine ⟨c, F, ρ, ω, d, _, w, e1, fun F1 H1 v p1 r1 => ⟨_, h1, c, F1, ρ, ω1, _, _, w.ext p1, e2, fun F2 H2 y p2 r2 => ?_⟩⟩
    have w2 := (w.ext p1).ext p2
    have own := (h2.ext p1).ext p2
    refine ⟨p, ?_⟩
    cases t with
    | false =>
      obtain ⟨kv, hv, r⟩ := own.r
      unfold okK at ok1
      rw [if_neg (by decide), Option.isSome_iff_exists] at ok1
      obtain ⟨key, hk⟩ := ok1
      cases keyA_eq hk
      cases r2.key
      refine ⟨upd H2 p (.dK (putK kv key v)), rfl, DPut.k hv (by rw [r.length]; exact ok2), k F2 _ σ (w2.write hn h1 ⟨_, upd_same, r.put (r1.mono p2.le0)⟩)⟩
    | true =>
      obtain ⟨kv, hv, r⟩ := own.r
      unfold okK at ok1
      rw [if_pos rfl, Option.isSome_iff_exists] at ok1
      obtain ⟨key, hk⟩ := ok1
      cases keyT_eq hk
      obtain ⟨b, rfl, hb⟩ := r2.keyT p2.le
      refine ⟨upd H2 p (.dT (putK kv key v)), rfl, DPut.t hv hb (by rw [r.length]; exact ok2), k F2 _ σ (w2.write hn h1 ⟨_, upd_same, r.put (r1.mono p2.le0)⟩)⟩
  · left
    exact ⟨c, F, ρ, ω, _, _, w, by unfold setIS; rw [bnd_at' e1, bnd_at' e2, e4]; rfl, k⟩
end
end FL
end
section
/-! FL: dicts walked, sorted. -/
namespace FL
open PySem PySem.Spec PyProof.Rows L2
theorem pi_or {X : Cx} {tg it : Expr} {t t' : TI} (h1 : PI X tg it t) (h2 : PI X tg it t') : PI X tg it (fun σ H R => t σ H R ∨ t' σ H R) := ⟨fun pins s σ H Q I q => by
  rcases q with q | q
  · exact h1.run pins s σ H Q I q
  · exact h2.run pins s σ H Q I q⟩
/-- a tuple that stands is taken up -/
theorem Post.grow {q : Qa} {F H : Hp} {ω : Ora} (h : Same F H) (o : OraR q F H ω) {b : Addr} {vs : List V} (hb : H b = some (.tup vs)) : Post q F H (upd F b (.tup vs)) H ω where
  le0 := fun a x e => by
    by_cases z : a = b
    · subst z
      have := h _ _ e
      rw [upd_same, ← this, hb]
    · rw [upd_ne z]; exact e
  new := fun a ha => by rw [upd_ne fun z => by subst z; rw [hb] at ha; exact ha]
  le := fun a x e => by
    by_cases z : a = b
    · subst z; rw [upd_same] at e; rw [hb]; exact e
    · rw [upd_ne z] at e; exact h a x e
  kept := fun _ _ e _ => e
  ora := ⟨fun r er => by
    obtain ⟨h1, h2, h3, h4, h5⟩ := o.1 r er
    exact ⟨h1, by rw [upd_ne fun z => by rw [z, hb] at h4; cases h4]; exact h2, by rw [upd_ne fun z => by rw [z, hb] at h5; cases h5]; exact h3, h4, h5⟩, fun a ha => by
    obtain ⟨h1, ps, h2, h3⟩ := o.2 a ha
    exact ⟨by rw [upd_ne fun z => by rw [z, hb] at h2; cases h2]; exact h1, ps, h2, h3⟩⟩
section
variable {K : PySem.W.Frag} {q : Qa} {F : Hp} {a : Addr} {o : Obj}
theorem itOk_keys {kv : List (Key × V)} {kvs : List (D × D)} (hF : F a = some (.frz o (.dK kv))) (r : RepKv K q F kv kvs) : ItOk K q F (Itk a o kv) (kvs.map (·.1)) := fun F2 H2 ω2 s1 s2 o2 i => by
  have hH := s2 _ _ (s1 _ _ hF)
  refine ⟨fun d hd => ⟨⟨hH, ?_⟩, fun x H3 hy => ?_⟩, fun hi => ⟨hH, by rw [List.length_map, ← r.length] at hi; exact hi⟩⟩
  · have := (List.getElem?_eq_some_iff.mp hd).1
    rw [List.length_map, ← r.length] at this; exact this
  · obtain ⟨rfl, k, v, hk, rfl⟩ := hy
    obtain ⟨d', h1, h2⟩ := r.get hk
    rw [List.getElem?_map, h1] at hd
    cases hd
    refine ⟨F2, .mk0 s2 o2, ?_⟩
    cases k with
    | inl i => exact .int i
    | inr x => exact .str x
theorem itOk_keysT {kv : List (List Key × V)} {kvs : List (D × D)} (hF : F a = some (.frz o (.dT kv))) (r : RepKt K q F kv kvs) : ItOk K q F (Itkt a o kv) (kvs.map (·.1)) := fun F2 H2 ω2 s1 s2 o2 i => by
  have hH := s2 _ _ (s1 _ _ hF)
  refine ⟨fun d hd => ⟨⟨hH, ?_⟩, fun x H3 hy => ?_⟩, fun hi => ⟨hH, by rw [List.length_map, ← r.length] at hi; exact hi⟩⟩
  · have := (List.getElem?_eq_some_iff.mp hd).1
    rw [List.length_map, ← r.length] at this; exact this
  · obtain ⟨rfl, k, v, b, hk, rfl, hb⟩ := hy
    obtain ⟨d', h1, h2⟩ := r.get hk
    rw [List.getElem?_map, h1] at hd
    cases hd
    exact ⟨upd F2 b (.tup (k.map kV)), Post.grow s2 o2 hb, .tup upd_same (reps_keys k)⟩
def pairD (p : D × D) : D := .tup [p.1, p.2]
theorem rep_key (k : Key) : Rep K q F (kV k) (kD k) := by
  cases k with
  | inl i => exact .int i
  | inr x => exact .str x
theorem itOk_items {kv : List (Key × V)} {kvs : List (D × D)} (hF : F a = some (.frz o (.dK kv))) (r : RepKv K q F kv kvs) : ItOk K q F (Iti a o kv) (kvs.map pairD) := fun F2 H2 ω2 s1 s2 o2 i => by
  have hH := s2 _ _ (s1 _ _ hF)
  refine ⟨fun d hd => ⟨⟨hH, ?_⟩, fun x H3 hy => ?_⟩, fun hi => ⟨hH, by rw [List.length_map, ← r.length] at hi; exact hi⟩⟩
  · have := (List.getElem?_eq_some_iff.mp hd).1
    rw [List.length_map, ← r.length] at this; exact this
  · obtain ⟨T, k, v, hk, rfl, hT, rfl⟩ := hy
    obtain ⟨d', h1, h2⟩ := r.get hk
    rw [List.getElem?_map, h1] at hd
    cases hd
    exact ⟨_, Post.alloc s2 o2 hT, .tup upd_same (.cons (rep_key k) (.cons ((h2.mono s1).mono (same_new (same_none s2 hT))) .nil))⟩
theorem itOk_itemsT {kv : List (List Key × V)} {kvs : List (D × D)} (hF : F a = some (.frz o (.dT kv))) (r : RepKt K q F kv kvs) : ItOk K q F (Itit a o kv) (kvs.map pairD) := fun F2 H2 ω2 s1 s2 o2 i => by
  have hH := s2 _ _ (s1 _ _ hF)
  refine ⟨fun d hd => ⟨⟨hH, ?_⟩, fun x H3 hy => ?_⟩, fun hi => ⟨hH, by rw [List.length_map, ← r.length] at hi; exact hi⟩⟩
  · have := (List.getElem?_eq_some_iff.mp hd).1
    rw [List.length_map, ← r.length] at this; exact this
  · obtain ⟨T, k, v, b, hk, hb, rfl, hT, rfl⟩ := hy
    obtain ⟨d', h1, h2⟩ := r.get hk
    rw [List.getElem?_map, h1] at hd
    cases hd
    have g := Post.grow s2 o2 hb
    have n2 : ∀ u, Same (upd F2 b (.tup (k.map kV))) (upd (upd F2 b (.tup (k.map kV))) T u) := fun u => same_new (same_none g.le hT)
    exact ⟨_, g.trans (Post.alloc g.le g.ora hT), .tup upd_same (.cons (.tup (n2 _ _ _ upd_same) (reps_keys k)) (.cons (((h2.mono s1).mono g.le0).mono (n2 _)) .nil))⟩
end
def seqDA : D → Option (List D)
  | .dic _ kvs => some (kvs.map (·.1))
  | d => seqD d
def itSA (f : EF) : AF := fun ρ => bnd (f ρ) fun d => opt (seqDA d)
def itemsD : D → Option (List D)
  | .dic _ kvs => some (kvs.map pairD)
  | _ => none
def itI (f : EF) : AF := fun ρ => bnd (f ρ) fun d => opt (itemsD d)
section
variable {X : Cx} {a tg e : Expr} {f : EF}
theorem i_seqA (hl : PE X a (tE X.K f)) : PI X tg a (tI X.K (itSA f)) := pi_weak (pi_or (i_seq hl) (pi_keys hl)) fun σ H R ⟨c, F, ρ, ω, d, ω', w, e, k⟩ => by
  obtain ⟨x, ω1, e1, e⟩ := bnd_some e
  obtain ⟨e2, rfl⟩ := opt_some e
  unfold seqDA at e2
  split at e2
  · rename_i t kvs
    cases e2
    right
    refine ⟨c, F, ρ, ω, _, _, w, e1, fun F1 H1 v p1 r1 => ?_⟩
    cases r1 with
    | dic hF r => exact ⟨_, _, rfl, .inl ⟨_, p1.le _ _ hF, k F1 H1 _ p1 (itOk_keys hF r)⟩⟩
    | dit hF r => exact ⟨_, _, rfl, .inr ⟨_, p1.le _ _ hF, k F1 H1 _ p1 (itOk_keysT hF r)⟩⟩
  · left
    exact ⟨c, F, ρ, ω, d, _, w, by unfold itS; rw [bnd_at' e1, e2]; rfl, k⟩
theorem i_items {elts : List Expr} {kk : Nat} {tpos apos cpos : Pos} (he : PE X e (tE X.K f)) (hbase : attributeBase e "items" X.env (eval e X.env) = eval e X.env := by rfl) (hline : (apos.endLine == cpos.line) = true := by rfl) :
    PI X (.Tuple elts kk tpos) (.Call (.Attribute e "items" apos) [] [] cpos) (tI X.K (itI f)) := pi_weak (pi_or (pi_items he hbase hline) (pi_itemsT he hbase hline)) fun σ H R ⟨c, F, ρ, ω, d, ω', w, e, k⟩ => by
  obtain ⟨x, ω1, e1, e⟩ := bnd_some e
  obtain ⟨e2, rfl⟩ := opt_some e
  unfold itemsD at e2
  split at e2
  · rename_i t kvs
    cases e2
    cases t with
    | false =>
      left
      refine ⟨c, F, ρ, ω, _, _, w, e1, fun F1 H1 v p1 r1 => ?_⟩
      cases r1 with
      | dic hF r => exact ⟨_, _, _, rfl, p1.le _ _ hF, k F1 H1 _ p1 (itOk_items hF r)⟩
    | true =>
      right
      refine ⟨c, F, ρ, ω, _, _, w, e1, fun F1 H1 v p1 r1 => ?_⟩
      cases r1 with
      | dit hF r => exact ⟨_, _, _, rfl, p1.le _ _ hF, k F1 H1 _ p1 (itOk_itemsT hF r)⟩
  · cases e2
end
/-! ### sorted(d), keys ints -/
def rSortDI : List V → Hp → VK → Prop := fun xs H Q => ∃ (a : Addr) (kvs : List (Key × V)) (ks : List Int), xs = [.ref a] ∧ Rd H a (.dK kvs) ∧ kvs.map (·.1) = ks.map Sum.inl ∧ ks.length < 64 ∧
    ∀ (ys : List Int) (p : Addr), ys.Perm ks → ys.Pairwise (· ≤ ·) → H p = none → Q (.ref p) (upd H p (.lst (ys.map V.int)))
abbrev rSortB (K : PySem.W.Frag) : List V → Hp → VK → Prop := fun xs H Q => rSortA K xs H Q ∨ rSortDI xs H Q
theorem cr_sortB {X : Cx} (hc : X.calm = true) (hu : X.A.units + 64 < cLine) : CallR X (.builtin "sorted") (rSortB X.K) := (cr_sortA hu).or (call_sortedDI hc)
def aSortB : List D → Option D
  | [.dic false kvs] => if kvs.length < 64 then (intsOf (kvs.map (·.1))).map fun ns => .lst ((srtI ns).map .int) else none
  | l => aSortA l
theorem repKv_ints {K : PySem.W.Frag} {q : Qa} {F : Hp} : ∀ {kv : List (Key × V)} {kvs : List (D × D)} {ns : List Int}, RepKv K q F kv kvs → intsOf (kvs.map (·.1)) = some ns → kv.map (·.1) = ns.map Sum.inl
  | _, _, ns, .nil, e => by cases e; rfl
  | _, _, ns, .cons (k := k) h r, e => by
    cases k with
    | inl i =>
      simp only [List.map_cons, kD, intsOf, Option.map_eq_some_iff] at e
      obtain ⟨m, h1, rfl⟩ := e
      rw [List.map_cons, List.map_cons, repKv_ints r h1]
    | inr x => simp [kD, intsOf] at e
theorem sortB_pureF {K : PySem.W.Frag} : PureAF K (rSortB K) aSortB := by
  intro q F H ω xs a d Q hs ho hx e k
  unfold aSortB at e
  split at e
  · split at e
    · rename_i kvs h64
      rw [Option.map_eq_some_iff] at e
      obtain ⟨ns, e1, rfl⟩ := e
      obtain ⟨v, rfl, hv⟩ := hx.one
      obtain ⟨p, kv, rfl, hd, r⟩ := hv.dk hs
      have hk := repKv_ints r e1
      have hl : ns.length < 64 := by
        have h := congrArg List.length hk
        rw [List.length_map, List.length_map, r.length] at h
        omega
      refine .inr ⟨p, kv, ns, rfl, hd, hk, hl, fun ys l hp hpw hl => ?_⟩
      rw [sorted_uniq (hp.trans (srtI_perm ns).symm) hpw (srtI_sorted ns)]
      exact k F _ l (Post.fresh hs ho hl) hl (same_none hs hl) ⟨_, upd_same, reps_ints _⟩
    · cases e
  · exact .inl (sortA_pureF q F H ω xs a d Q hs ho hx e k)
end FL
end
section
/-! FL: dict comprehensions, keys ints and texts or tuples of these. -/
namespace FL
open PySem PySem.Spec PyProof.Rows L2
/-- a tuple key stored while a block builds its dict -/
theorem dT_store {X : Cx} {pins : List (Addr × Obj)} {σ : L2.St} {H : Hp} {s : Shared} {E : Value → Shared → Prop} {D b : Addr} {kvs : List (List Key × V)} {k : List Key} {v : V} {r : Value} {Q : Unit → Shared → Prop} (hu : X.A.units + 1 < cLine)
    (I : Inv X pins σ H s) (hD : H D = some (.dT kvs)) (hz : kvs.length < sizeLine) (hb : H b = some (.tup (k.map kV))) (rv : RelV v r)
    (h : ∀ s', Inv X pins σ (upd H D (.dT (putK kvs k v))) s' → Q () s') : wpAny (model X.prog X.w) X.A (dictSet D (.ref b) r) Q E s := by
  obtain ⟨z, hd, xs, rel, dd⟩ := dt_of I.hok hD
  have hzx : xs.length ≤ sizeLine := by rw [← Paired.length rel]; exact z
  have hl : (putK kvs k v).length ≤ sizeLine := Nat.le_trans (length_putK kvs k v) hz
  refine wpAny_dictSet_heap (hsz := hzx) (show X.A.units < cLine by omega) (key_of I.hok hb) dd fun h' dd' hs => h _ ?_
  obtain ⟨q, es, ep, hq, h2, h3, h4, _, h5⟩ := dd'
  refine d_write I (by rw [hD]; trivial) hs ⟨q, hq⟩ ⟨hl, hd, _, (rel.put k hb rv).keeps (fun c ys ec => ?_), q, es, ep, hq, h2, h3, h4, h5⟩
  rwa [upd_ne (ne_of ec hD (fun z => nomatch z))]
section
variable {X : Cx}
/-- {k: v for target in iter if ..}, keys tuples of ints and texts: D the new dict -/
def tDcT (wi : TI) (g : TG) (tt : TT) (tk tv : TE) (vs : List Nat) : TE := fun σ H Q => wi σ H fun J H1 => ∀ D, H1 D = none → ∃ W : Nat → Nat → Hp → Prop, (∃ m, W 0 m (upd H1 D (.dT []))) ∧ ∀ i m H, W i m H →
  (J.stop i H ∧ Q (.ref D) H) ∨ (J.go i H ∧ ∃ Nx : Hp → Prop, (∀ H', Nx H' → ∃ m', m' < m ∧ W (i + 1) m' H') ∧ ∀ x H', J.yld i H x H' → g x (wipe σ vs) H' fun σ2 H2 => wipe σ2 vs = wipe σ vs ∧ tt σ2 H2 fun b H3 =>
    if b = true then tk σ2 H3 fun y H4 => tv σ2 H4 fun z H5 => ∃ kvs k b, y = .ref b ∧ H5 b = some (.tup (k.map kV)) ∧ H5 D = some (.dT kvs) ∧ kvs.length < sizeLine ∧ Nx (upd H5 D (.dT (putK kvs k z))) else Nx H3)
abbrev BlkP (X : Cx) (scope : Scope) (P : Cx → Prop) : Prop := ∀ (s : Shared) (H : Hp) (C : Addr) (cl : List (Str × Addr)) (fp : List Addr), P (X.blk s H scope (compEnvC scope cl C X.env) fp)
theorem dcT_core {pins : List (Addr × Obj)} {s : Shared} {σ : L2.St} {H : Hp} {Q : VK} {kx vx tg iter : Expr} {ifs : List Expr} {scope : Scope} {own : List (Str × Nat)} {pos pos' : Pos} {wi : TI} {g : TG} {tt : TT} {tk tv : TE} {use : Option (Value → Sem Unit)} {Qf : Value → Shared → Prop}
    (hu : X.A.units + 1 < cLine) (hc : X.calm = true) (hN : X.N.Nodup) (I : Inv X pins σ H s) (hi : PI X tg iter wi) (ok : BlkOk X.N X.env.scope scope own)
    (hg : BlkP X scope fun Y => PG Y tg g) (ht : BlkP X scope fun Y => PTs Y ifs tt) (hk : BlkP X scope fun Y => PE Y kx tk) (he : BlkP X scope fun Y => PE Y vx tv) (hs : ∀ x, foldedSetIterable iter X.env x = pure x)
    (h : tDcT wi g tt tk tv (own.map (·.2)) σ H Q)
    (hRR : ∀ D C s' m H', Inv X pins σ H' s' → Q (.ref D) H' → s'.heap.Ns C m → FpOk X pins H' C → compPost (model X.prog X.w) X.A X.xe use Qf (.ref D) C (.ok .next) s') :
    wpAny (model X.prog X.w) X.A (comprehension (.DictComp kx vx [⟨tg, iter, ifs, 0⟩] scope pos) scope X.env pos' newDict false (eval iter X.env) use) Qf X.xe s := by
  have hfree : ∀ y ∈ scope.names, y.2 = .free → ∃ c, X.env.cells.lookup y.1 = some c := fun y hy e => (ok.free y hy e).elim (fun k => I.ok.has _ (.inl k)) fun k => I.ok.has _ (.inr k)
  refine wpAny_comprehension_free (use := use) rfl hs (closure_ok hfree) ok.kind (fun y hy e => by rw [ok.uniq y hy, e]) (thn (hi.run pins s σ H _ I h) fun xv s1 hx => thn hx fun itv s2 h2 => ?_)
  obtain ⟨it, fp, tn, J, H2, e, I2, T, st2, f2, q⟩ := h2
  subst e
  refine wpAny_newObj_type (newEnv_comp ?_)
  obtain ⟨D, hD⟩ : ∃ D, s2.heap.objs.size = D := ⟨_, rfl⟩
  rw [hD]
  obtain ⟨W, ⟨m0, w0⟩, turn⟩ := q D (I2.hok.fresh (Nat.le_of_eq hD))
  have nd : ObjOk X.prog X.w (upd H2 D (.dT [])) (s2.heap.push { cls := .type "dict", data := .dict #[] }) D (.dT []) := by rw [← hD]; exact dt_empty s2.heap I2.big
  generalize hs3 : ({ s2 with heap := s2.heap.push { cls := .type "dict", data := .dict #[] } } : Shared) = s3
  have h3 : s3.heap = s2.heap.push { cls := .type "dict", data := .dict #[] } := by rw [← hs3]
  have I3 : Inv X pins σ (upd H2 D (.dT [])) s3 := by
    rw [← hs3]
    exact I2.laid (t' := s2.toks) (fun b o e => Heap.get?_push_of_some _ e) (Nat.le_of_eq hD) nd
  have f3 : ∀ b ∈ fp, FpOk X pins (upd H2 D (.dT [])) b ∧ b < s3.heap.objs.size := fun b hb => by
    obtain ⟨o, eo, _⟩ := T.obj _ _ st2 b hb
    have hlt := Heap.lt_size eo
    exact ⟨⟨(upd_ne (by rw [← hD]; exact Nat.ne_of_lt hlt)).trans (f2 b hb).1, (f2 b hb).2⟩, by rw [h3, Heap.size_push]; exact Nat.lt_succ_of_lt hlt⟩
  have st3 : tn 0 s3.heap := T.keep _ _ _ st2 fun b _ o e => by rw [h3]; exact Heap.get?_push_of_some _ e
  have I4 := block_start I3 ok hN f3
  have cd := fun {P : Cx → Prop} (h : BlkP X scope P) => h s3 (upd H2 D (.dT [])) s3.heap.objs.size (cellsFrom (s3.heap.objs.size + 1) scope.names (cloFrom X.env.cells scope.names [])) fp
  have pg := cd hg
  have pt := cd ht
  have pk := cd hk
  have pe := cd he
  show codeAny _ _ (.compStart (.DictComp kx vx [⟨tg, iter, ifs, 0⟩] scope pos) 0 (.ref it) (.ref D) (compEnvC scope (cellsFrom (s3.heap.objs.size + 1) scope.names (cloFrom X.env.cells scope.names [])) s3.heap.objs.size X.env)) (compPost (model X.prog X.w) X.A X.xe use Qf (.ref D) s3.heap.objs.size) { s3 with heap := pushCells (s3.heap.push { cls := .type "dict", data := .dict #[] }) scope.names }
  have nfp : ∀ b ∈ fp, (upd H2 D (.dT [])) b = none := fun b hb => (f3 b hb).1.1
  generalize hce : compEnvC scope (cellsFrom (s3.heap.objs.size + 1) scope.names (cloFrom X.env.cells scope.names [])) s3.heap.objs.size X.env = ce at I4 pg pt pk pe ⊢
  have cL : ce.locals = s3.heap.objs.size := by subst hce; rfl
  generalize hH3 : upd H2 D (.dT []) = H3 at I3 I4 pg pt pk pe w0 nfp f3
  generalize hs4 : ({ s3 with heap := pushCells (s3.heap.push { cls := .type "dict", data := .dict #[] }) scope.names } : Shared) = s4 at I4 ⊢
  have st4 : tn 0 s4.heap := T.keep _ _ _ st3 fun b _ o e => by rw [← hs4]; exact pushCells_keeps _ _ _ _ (Heap.get?_push_of_some _ e)
  have stat : ∀ {σ' : L2.St} {H' : Hp} {s' : Shared}, Inv (X.blk s3 H3 scope ce fp) [] σ' H' s' → (∀ b ∈ fp, H' b = none) → ∀ b ∈ fp, FpOk (X.blk s3 H3 scope ce fp) [] H' b := fun {σ' H' s'} I' hn b hb =>
    ⟨hn b hb, (I'.ok.exf b hb).1, I'.ok.exfs b hb, .inl hb, fun x c e => (I'.ok.exf b hb).2 x c e, fun p hp => absurd (show p ∈ ([] : List (Addr × Obj)) ++ [] from hp) (by simp)⟩
  have loop : codeAny (model X.prog X.w) X.A (.compLoop (.DictComp kx vx [⟨tg, iter, ifs, 0⟩] scope pos) 0 (.ref it) (.ref D) ce) (compPost (model X.prog X.w) X.A X.xe use Qf (.ref D) s3.heap.objs.size) s4 := by
    refine compLoop_anyD (fun n s' => ∃ i H', Inv (X.blk s3 H3 scope ce fp) [] (wipe σ (own.map (·.2))) H' s' ∧ tn i s'.heap ∧ (∀ b ∈ fp, H' b = none) ∧ W i n H') ?_ m0 ⟨0, H3, I4, st4, nfp, w0⟩
    rintro n s5 ⟨i, H5, I5, st5, n5, w5⟩
    rcases turn i n H5 w5 with ⟨stop, qq⟩ | ⟨go, Nx, hNx, step⟩
    · refine thnF (T.done (X.blk s3 H3 scope ce fp) rfl rfl rfl hc i [] s5 _ H5 (fun _ _ => False) I5 (stat I5 n5) st5 stop) fun r s6 ⟨hr, I6⟩ => ?_
      subst hr
      have I7 : Inv X pins σ H5 s6 := I3.call' (ch := fp) I6.os I6.base I6.hok I6.bare fun b hb => ⟨(f3 b hb).1.2.2.2.1, (f3 b hb).1.2.1, (f3 b hb).1.2.2.2.2.1, (f3 b hb).1.2.2.2.2.2⟩
      have nC : H5 s3.heap.objs.size = none := cL ▸ (show H5 ce.locals = none from I6.free)
      obtain ⟨m, hn, _⟩ := I6.loc
      have hn : s6.heap.Ns ce.locals m := hn
      rw [cL] at hn
      exact hRR D s3.heap.objs.size s6 m H5 I7 qq hn (I3.fpOk (Nat.le_refl _) nC)
    · refine thnF (T.item (X.blk s3 H3 scope ce fp) rfl rfl rfl hc i [] s5 _ H5 (fun _ _ => False) I5 (stat I5 n5) st5 go) fun r s6 ⟨u, hr, h6⟩ => ?_
      subst hr
      refine thnF h6 fun _ s7 ⟨x, H7, I7, r7, y7, st7, n7⟩ => ?_
      refine thnF (pg.run _ s7 _ H7 x u _ (I7.pinned (stat I7 n7) (T.obj _ _ st7)) r7 (step x H7 y7)) fun _ s8 ⟨σ8, H8, I8, hw8, q8⟩ => ?_
      refine thnF (pt.run _ s8 σ8 H8 _ I8 q8) fun b s9 ⟨H9, I9, q9⟩ => ?_
      have fin : ∀ {s' : Shared} {H' : Hp}, Inv (X.blk s3 H3 scope ce fp) ([] ++ pinsAt fp s7.heap) σ8 H' s' → Nx H' → ∃ m, m < n ∧ ∃ i H', Inv (X.blk s3 H3 scope ce fp) [] (wipe σ (own.map (·.2))) H' s' ∧ tn i s'.heap ∧ (∀ b ∈ fp, H' b = none) ∧ W i m H' := fun {s' H'} I' nx => by
        obtain ⟨m', hm, w'⟩ := hNx H' nx
        have pin' : ∀ b ∈ fp, ∀ o, s7.heap.get? b = some o → s'.heap.get? b = some o ∧ H' b = none := fun b hb o e =>
          have z := I'.pin (b, o) (List.mem_append_right _ (List.mem_append_right _ (mem_pinsAt hb e)))
          ⟨z.1, z.2.1⟩
        refine ⟨m', hm, i + 1, H', (I'.unpinned (pins := [])).weak (by rw [← hw8, wipe_length]) (fun j v e => ?_), T.keep _ _ _ st7 fun b hb o e => (pin' b hb o e).1, fun b hb => ?_, w'⟩
        · rw [← hw8] at e
          exact (wipe_some e).1
        · obtain ⟨o, e, _⟩ := T.obj _ _ st7 b hb
          exact (pin' b hb o e).2
      cases b with
      | false =>
        simp only [Bool.false_eq_true, if_false] at q9 ⊢
        exact fin I9 q9
      | true =>
        simp only [if_true] at q9 ⊢
        refine thnF (pk.run _ s9 σ8 H9 _ I9 q9) fun z s10 ⟨yk, H10, I10, r10, q10⟩ => ?_
        refine thnF (pe.run _ s10 σ8 H10 _ I10 q10) fun z2 s11 ⟨yv, H11, I11, r11, kvs, k, bk, ek, hb11, hD11, hz11, nx⟩ => ?_
        subst ek
        obtain rfl : z = Value.ref bk := r10
        exact dT_store (X := X.blk s3 H3 scope ce fp) hu I11 hD11 hz11 hb11 r11 fun s12 I12 => fin I12 nx
  exact codeAny_compStart_dict loop (T.self X.A 0 _ _ _ st4 loop)
section
variable {kx vx tg iter : Expr} {ifs : List Expr} {scope : Scope} {own : List (Str × Nat)} {pos spos py : Pos} {wi : TI} {g : TG} {tt : TT} {tk tv : TE} {i : Nat} {y : Str}
theorem pe_dcT (hu : X.A.units + 1 < cLine) (hc : X.calm = true) (hN : X.N.Nodup) (hi : PI X tg iter wi) (ok : BlkOk X.N X.env.scope scope own)
    (hg : BlkP X scope fun Y => PG Y tg g) (ht : BlkP X scope fun Y => PTs Y ifs tt) (hk : BlkP X scope fun Y => PE Y kx tk) (he : BlkP X scope fun Y => PE Y vx tv) (hs : ∀ x, foldedSetIterable iter X.env x = pure x := by intro _; rfl) :
    PE X (.DictComp kx vx [⟨tg, iter, ifs, 0⟩] scope pos) (tDcT wi g tt tk tv (own.map (·.2))) := ⟨fun pins s σ H Q I h => by
  rw [arm_eval_DictComp]
  refine dcT_core hu hc hN I hi ok hg ht hk he hs h fun D C s' m H' I' q hn f => ⟨m, hn, fun h'' sb => ⟨.ref D, H', ?_, rfl, q⟩⟩
  exact I'.turned (t' := s'.toks) (fun b o hb e => (sb.2 b hb).trans e) f.1 f.2.1 f.2.2.2.1 f.2.2.2.2.1 f.2.2.2.2.2⟩
/-- what is left to do where the new dict goes to a local's name -/
theorem dc_store {pins : List (Addr × Obj)} {σ : L2.St} {D : Ends} (hN : X.N.Nodup) (hy : X.N[i]? = some y) (hyl : X.env.scope.names.lookup y = some .local) {L C : Addr} {s' : Shared} {m : Str → Option Value} {H' : Hp} (I' : Inv X pins σ H' s') (q : D.nx (σ.set i (some (.ref L))) H') (hn : s'.heap.Ns C m) (f : FpOk X pins H' C) :
    compPost (model X.prog X.w) X.A X.xe (some (assign (.Name y py) X.env)) (fun _ s' => SP X pins D .next s') (.ref L) C (.ok .next) s' := by
  refine wpAny_assign_Name (store_ok2 (v := V.ref L) I' hN hy (.inl hyl) rfl (fun s2 I2 ⟨a, sb, ha⟩ => ?_) (.inr hyl))
  have haC : C ≠ a := ha.elim (fun z => by rw [z]; exact f.2.1) fun z e => f.2.2.2.2.1 y a z e.symm
  exact ⟨m, hn.sameBut sb haC, fun h3 sb3 => ⟨_, H', I2.turned (t' := s2.toks) (fun b o hb e => (sb3.2 b hb).trans e) f.1 f.2.1 f.2.2.2.1 f.2.2.2.2.1 f.2.2.2.2.2, q⟩⟩
theorem ps_setDcT (hu : X.A.units + 1 < cLine) (hc : X.calm = true) (hN : X.N.Nodup) (hy : X.N[i]? = some y) (hyl : X.env.scope.names.lookup y = some .local)
    (hsw : swapsWith (.DictComp kx vx [⟨tg, iter, ifs, 0⟩] scope pos) (some (.Name y py)) spos.line X.env = pure true) (hi : PI X tg iter wi) (ok : BlkOk X.N X.env.scope scope own)
    (hg : BlkP X scope fun Y => PG Y tg g) (ht : BlkP X scope fun Y => PTs Y ifs tt) (hk : BlkP X scope fun Y => PE Y kx tk) (he : BlkP X scope fun Y => PE Y vx tv) (hs : ∀ x, foldedSetIterable iter X.env x = pure x := by intro _; rfl) :
    PS X (.Assign [.Name y py] (.DictComp kx vx [⟨tg, iter, ifs, 0⟩] scope pos) spos) (tAsg (tDcT wi g tt tk tv (own.map (·.2))) (gName i)) := ⟨fun pins s σ H D I h => by
  rw [exec_Assign_Name_used _ _ _ _ hsw]
  refine wpAny_bind (wpAny_standAt (wpAny_bind ?_))
  show wpAny _ X.A (do let _ ← comprehension (.DictComp kx vx [⟨tg, iter, ifs, 0⟩] scope pos) scope X.env (firstIterPos [⟨tg, iter, ifs, 0⟩] pos) newDict false (eval iter X.env) (some (assign (.Name y py) X.env))) _ _ s
  have h : tDcT wi g tt tk tv (own.map (·.2)) σ H (fun x H1 => gName i x σ H1 D.nx) := h
  exact wpAny_bind (thn (dcT_core (Qf := fun _ s' => SP X pins D .next s') hu hc hN I hi ok hg ht hk he hs h fun L C s' m H' I' q hn f => dc_store hN hy hyl I' q hn f) fun _ s' hq => wpAny_pure (wpAny_pure hq))⟩
theorem ps_setDcK (hc : X.calm = true) (hN : X.N.Nodup) (hy : X.N[i]? = some y) (hyl : X.env.scope.names.lookup y = some .local)
    (hsw : swapsWith (.DictComp kx vx [⟨tg, iter, ifs, 0⟩] scope pos) (some (.Name y py)) spos.line X.env = pure true) (hi : PI X tg iter wi) (ok : BlkOk X.N X.env.scope scope own)
    (hg : BlkP X scope fun Y => PG Y tg g) (ht : BlkP X scope fun Y => PTs Y ifs tt) (hk : BlkP X scope fun Y => PE Y kx tk) (he : BlkP X scope fun Y => PE Y vx tv) (hs : ∀ x, foldedSetIterable iter X.env x = pure x := by intro _; rfl) :
    PS X (.Assign [.Name y py] (.DictComp kx vx [⟨tg, iter, ifs, 0⟩] scope pos) spos) (tAsg (tDc wi g tt tk tv (own.map (·.2))) (gName i)) := ⟨fun pins s σ H D I h => by
  rw [exec_Assign_Name_used _ _ _ _ hsw]
  refine wpAny_bind (wpAny_standAt (wpAny_bind ?_))
  show wpAny _ X.A (do let _ ← comprehension (.DictComp kx vx [⟨tg, iter, ifs, 0⟩] scope pos) scope X.env (firstIterPos [⟨tg, iter, ifs, 0⟩] pos) newDict false (eval iter X.env) (some (assign (.Name y py) X.env))) _ _ s
  have h : tDc wi g tt tk tv (own.map (·.2)) σ H (fun x H1 => gName i x σ H1 D.nx) := h
  exact wpAny_bind (thn (dc_core (Qf := fun _ s' => SP X pins D .next s') hc hN I hi ok hg ht hk he hs h fun L C s' m H' I' q hn f => dc_store hN hy hyl I' q hn f) fun _ s' hq => wpAny_pure (wpAny_pure hq))⟩
theorem swd_true {gs : List Comprehension} {l : Nat} {env : PySem.Env} (hk : env.scope.kind = .function) (hy : env.scope.names.lookup y = some .local) (hl : (py.line == pos.line) = true)
    (ha : (scope.names.any fun (n, k) => n == y && (k == .local || k == .cell)) = false) : swapsWith (.DictComp kx vx gs scope pos) (some (.Name y py)) l env = pure true := by
  have ky : env.kindOf y = some .local := hy
  have hb : env.blockKind = .function := by unfold PySem.Env.blockKind; rw [hk]; rfl
  unfold swapsWith
  simp only [hb, ky, ha, Expr.pos, hl]
  rfl
end
end
end FL
end
section
/-! FL: dict comprehensions (printed by mkdf.py). -/
namespace FL
open PySem PySem.Spec PyProof.Rows L2
def stD (t : Bool) (acc : List (D × D)) (k v : D) : Option (List (D × D)) := if (okK t k && decide (acc.length < sizeLine)) = true then some (putD t acc k v) else none
def dcL (t : Bool) (b : GF) (tt : BF) (ek ev : EF) (ρ : Env) : List D → List (D × D) → M (List (D × D))
  | [], acc => ret acc
  | d :: ds, acc => bnd (opt (b d ρ)) fun ρ1 => bnd (tt ρ1) fun x => bif x then bnd (ek ρ1) fun k => bnd (ev ρ1) fun v => bnd (opt (stD t acc k v)) fun acc' => dcL t b tt ek ev ρ ds acc' else dcL t b tt ek ev ρ ds acc
def dcE (t : Bool) (it : AF) (b : GF) (tt : BF) (ek ev : EF) (vs : List Nat) : EF := fun ρ => bnd (it ρ) fun ds => bnd (dcL t b tt ek ev (fgt vs ρ) ds []) fun kvs => ret (.dic t kvs)
theorem dcK_fl {K : PySem.W.Frag} {it : AF} {b : GF} {tt : BF} {ek ev : EF} {vs is : List Nat} (hsub : ∀ j ∈ is, j ∈ vs) {σ : L2.St} {H : Hp} {Q : VK} (h : tF K (dcE false it b tt ek ev vs) σ H Q) : tDc (tI K it) (tG K is b) (tT' K tt) (tE K ek) (tE K ev) vs σ H Q := by
  obtain ⟨c, F, ρ, ω, d, ω', w, e, k⟩ := h
  obtain ⟨ds, ω1, e1, e⟩ := bnd_some e
  obtain ⟨xs, ω2, e2, e⟩ := bnd_some e
  obtain ⟨rfl, rfl⟩ := ret_some e
  refine ⟨c, F, ρ, ω, ds, ω1, w, e1, fun F1 H1 J p1 hJ D hD => ?_⟩
  have w1 := w.ext p1
  have hF1 : F1 D = none := same_none p1.le hD
  refine ⟨fun i m H => m = ds.length - i ∧ i ≤ ds.length ∧ ∃ F ω kv kvs, Post c.q F1 H1 F H ω ∧ F D = none ∧ H D = some (.dK kv) ∧ RepKv K c.q F kv kvs ∧ dcL false b tt ek ev (FL.fgt vs ρ) (ds.drop i) kvs ω = some (xs, ω'),
    ⟨_, rfl, Nat.zero_le _, F1, ω1, [], [], Post.fresh p1.le p1.ora hD, hF1, upd_same, .nil, e2⟩, ?_⟩
  rintro i m H ⟨rfl, hi, F, ω, kv, kvs, p, hF, hH, rr, e⟩
  obtain ⟨h1, h2⟩ := hJ F H ω p.le0 p.le p.ora i
  by_cases hlt : i < ds.length
  · have hd : ds[i]? = some ds[i] := by simp [hlt]
    obtain ⟨go, yl⟩ := h1 _ hd
    have edrop : ds.drop i = ds[i] :: ds.drop (i + 1) := List.drop_eq_getElem_cons hlt
    rw [edrop] at e
    obtain ⟨ρ1, ω3, ea, eb⟩ := bnd_some e
    obtain ⟨t, ω4, e4, ec⟩ := bnd_some eb
    obtain ⟨e3, rfl⟩ := opt_some ea
    refine .inr ⟨go, fun H' => i + 1 ≤ ds.length ∧ ∃ F ω kv kvs, Post c.q F1 H1 F H' ω ∧ F D = none ∧ H' D = some (.dK kv) ∧ RepKv K c.q F kv kvs ∧ dcL false b tt ek ev (FL.fgt vs ρ) (ds.drop (i + 1)) kvs ω = some (xs, ω'), fun H' h => ⟨_, by omega, rfl, h⟩, fun x H3 hy => ?_⟩
    obtain ⟨F3, p3, r3⟩ := yl x H3 hy
    have wi := (((w1.ext p).ext p3).wipe vs)
    refine ⟨c, F3, _, _, _, ρ1, wi, r3, e3, fun σ4 w4 l4 hs4 => ⟨wipe_eq (by rw [l4, wipe_length]) (fun j hj => hs4 j fun z => hj (hsub j z)), c, F3, ρ1, _, t, ω4, w4, e4, fun F5 H5 p5 => ?_⟩⟩
    have qfD : Qfree c.q D := qfree_none p1.ora hD
    have hH3 : H3 D = some (.dK kv) := p3.kept _ _ hH qfD
    have hH5 : H5 D = some (.dK kv) := p5.kept _ _ hH3 qfD
    have hF5 : F5 D = none := by rw [p5.new D (by rw [hH3]; trivial), p3.new D (by rw [hH]; trivial)]; exact hF
    have pp := (p.trans p3).trans p5
    have rr5 := (rr.mono p3.le0).mono p5.le0
    cases t with
    | false => exact iteF ⟨hlt, F5, ω4, kv, kvs, pp, hF5, hH5, rr5, ec⟩
    | true =>
      obtain ⟨y, ω5, e5, ed⟩ := bnd_some ec
      obtain ⟨z, ω6, e6, ee⟩ := bnd_some ed
      obtain ⟨acc, ω7, e7, ef⟩ := bnd_some ee
      obtain ⟨e8, rfl⟩ := opt_some e7
      refine iteT ⟨c, F5, ρ1, ω4, y, ω5, w4.ext p5, e5, fun F6 H6 v p6 r6 => ⟨c, F6, ρ1, ω5, z, _, (w4.ext p5).ext p6, e6, fun F7 H7 u p7 r7 => ?_⟩⟩
      have hH6 : H6 D = some (.dK kv) := p6.kept _ _ hH5 qfD
      have hH7 : H7 D = some (.dK kv) := p7.kept _ _ hH6 qfD
      have rr7 := (rr5.mono p6.le0).mono p7.le0
      unfold stD at e8
      split at e8
      · rename_i ok
        rw [Bool.and_eq_true, decide_eq_true_eq] at ok
        obtain ⟨ok1, ok2⟩ := ok
        cases e8
        unfold okK at ok1
        rw [if_neg (by decide), Option.isSome_iff_exists] at ok1
        obtain ⟨key, hk⟩ := ok1
        cases keyA_eq hk
        cases Vw.key (H := H6) (.inl r6)
        refine ⟨kv, key, rfl, hH7, by rw [rr7.length]; exact ok2, hlt, F7, _, _, _, ?_, ?_, upd_same, rr7.put r7, ef⟩
        · exact ((pp.trans p6).trans p7).upd_free p1.ora hD (by rw [p7.new D (by rw [hH6]; trivial), p6.new D (by rw [hH5]; trivial)]; exact hF5)
        · rw [p7.new D (by rw [hH6]; trivial), p6.new D (by rw [hH5]; trivial)]; exact hF5
      · cases e8
  · have hge : ds.length ≤ i := by omega
    refine .inl ⟨h2 hge, ?_⟩
    rw [List.drop_of_length_le hge] at e
    obtain ⟨rfl, rfl⟩ := ret_some e
    exact k F H D (p1.trans p) (none_back p1 hD) hF ⟨_, hH, rr⟩
theorem dcT_fl {K : PySem.W.Frag} {it : AF} {b : GF} {tt : BF} {ek ev : EF} {vs is : List Nat} (hsub : ∀ j ∈ is, j ∈ vs) {σ : L2.St} {H : Hp} {Q : VK} (h : tF K (dcE true it b tt ek ev vs) σ H Q) : tDcT (tI K it) (tG K is b) (tT' K tt) (tE K ek) (tE K ev) vs σ H Q := by
  obtain ⟨c, F, ρ, ω, d, ω', w, e, k⟩ := h
  obtain ⟨ds, ω1, e1, e⟩ := bnd_some e
  obtain ⟨xs, ω2, e2, e⟩ := bnd_some e
  obtain ⟨rfl, rfl⟩ := ret_some e
  refine ⟨c, F, ρ, ω, ds, ω1, w, e1, fun F1 H1 J p1 hJ D hD => ?_⟩
  have w1 := w.ext p1
  have hF1 : F1 D = none := same_none p1.le hD
  refine ⟨fun i m H => m = ds.length - i ∧ i ≤ ds.length ∧ ∃ F ω kv kvs, Post c.q F1 H1 F H ω ∧ F D = none ∧ H D = some (.dT kv) ∧ RepKt K c.q F kv kvs ∧ dcL true b tt ek ev (FL.fgt vs ρ) (ds.drop i) kvs ω = some (xs, ω'),
    ⟨_, rfl, Nat.zero_le _, F1, ω1, [], [], Post.fresh p1.le p1.ora hD, hF1, upd_same, .nil, e2⟩, ?_⟩
  rintro i m H ⟨rfl, hi, F, ω, kv, kvs, p, hF, hH, rr, e⟩
  obtain ⟨h1, h2⟩ := hJ F H ω p.le0 p.le p.ora i
  by_cases hlt : i < ds.length
  · have hd : ds[i]? = some ds[i] := by simp [hlt]
    obtain ⟨go, yl⟩ := h1 _ hd
    have edrop : ds.drop i = ds[i] :: ds.drop (i + 1) := List.drop_eq_getElem_cons hlt
    rw [edrop] at e
    obtain ⟨ρ1, ω3, ea, eb⟩ := bnd_some e
    obtain ⟨t, ω4, e4, ec⟩ := bnd_some eb
    obtain ⟨e3, rfl⟩ := opt_some ea
    refine .inr ⟨go, fun H' => i + 1 ≤ ds.length ∧ ∃ F ω kv kvs, Post c.q F1 H1 F H' ω ∧ F D = none ∧ H' D = some (.dT kv) ∧ RepKt K c.q F kv kvs ∧ dcL true b tt ek ev (FL.fgt vs ρ) (ds.drop (i + 1)) kvs ω = some (xs, ω'), fun H' h => ⟨_, by omega, rfl, h⟩, fun x H3 hy => ?_⟩
    obtain ⟨F3, p3, r3⟩ := yl x H3 hy
    have wi := (((w1.ext p).ext p3).wipe vs)
    refine ⟨c, F3, _, _, _, ρ1, wi, r3, e3, fun σ4 w4 l4 hs4 => ⟨wipe_eq (by rw [l4, wipe_length]) (fun j hj => hs4 j fun z => hj (hsub j z)), c, F3, ρ1, _, t, ω4, w4, e4, fun F5 H5 p5 => ?_⟩⟩
    have qfD : Qfree c.q D := qfree_none p1.ora hD
    have hH3 : H3 D = some (.dT kv) := p3.kept _ _ hH qfD
    have hH5 : H5 D = some (.dT kv) := p5.kept _ _ hH3 qfD
    have hF5 : F5 D = none := by rw [p5.new D (by rw [hH3]; trivial), p3.new D (by rw [hH]; trivial)]; exact hF
    have pp := (p.trans p3).trans p5
    have rr5 := (rr.mono p3.le0).mono p5.le0
    cases t with
    | false => exact iteF ⟨hlt, F5, ω4, kv, kvs, pp, hF5, hH5, rr5, ec⟩
    | true =>
      obtain ⟨y, ω5, e5, ed⟩ := bnd_some ec
      obtain ⟨z, ω6, e6, ee⟩ := bnd_some ed
      obtain ⟨acc, ω7, e7, ef⟩ := bnd_some ee
      obtain ⟨e8, rfl⟩ := opt_some e7
      refine iteT ⟨c, F5, ρ1, ω4, y, ω5, w4.ext p5, e5, fun F6 H6 v p6 r6 => ⟨c, F6, ρ1, ω5, z, _, (w4.ext p5).ext p6, e6, fun F7 H7 u p7 r7 => ?_⟩⟩
      have hH6 : H6 D = some (.dT kv) := p6.kept _ _ hH5 qfD
      have hH7 : H7 D = some (.dT kv) := p7.kept _ _ hH6 qfD
      have rr7 := (rr5.mono p6.le0).mono p7.le0
      unfold stD at e8
      split at e8
      · rename_i ok
        rw [Bool.and_eq_true, decide_eq_true_eq] at ok
        obtain ⟨ok1, ok2⟩ := ok
        cases e8
        unfold okK at ok1
        rw [if_pos rfl, Option.isSome_iff_exists] at ok1
        obtain ⟨key, hk⟩ := ok1
        cases keyT_eq hk
        obtain ⟨bb, rfl, hbb⟩ := Vw.keyT (.inl (r6.mono p7.le0)) p7.le
        refine ⟨kv, key, bb, rfl, hbb, hH7, by rw [rr7.length]; exact ok2, hlt, F7, _, _, _, ?_, ?_, upd_same, rr7.put r7, ef⟩
        · exact ((pp.trans p6).trans p7).upd_free p1.ora hD (by rw [p7.new D (by rw [hH6]; trivial), p6.new D (by rw [hH5]; trivial)]; exact hF5)
        · rw [p7.new D (by rw [hH6]; trivial), p6.new D (by rw [hH5]; trivial)]; exact hF5
      · cases e8
  · have hge : ds.length ≤ i := by omega
    refine .inl ⟨h2 hge, ?_⟩
    rw [List.drop_of_length_le hge] at e
    obtain ⟨rfl, rfl⟩ := ret_some e
    exact k F H D (p1.trans p) (none_back p1 hD) hF ⟨_, hH, rr⟩
section
variable {X : Cx} {kx vx tg iter : Expr} {ifs : List Expr} {scope : Scope} {pos spos py : Pos} {it : AF} {b : GF} {tt : BF} {ek ev : EF} {is : List Nat} {y : Str}
theorem f_dcK (own : List (Str × Nat)) (hN : X.N.Nodup) (hi : PI X tg iter (tI X.K it))
    (hg : BlkP X scope fun Y => PG Y tg (tG X.K is b)) (ht : BlkP X scope fun Y => PTs Y ifs (tT' X.K tt)) (hk : BlkP X scope fun Y => PE Y kx (tE X.K ek)) (he : BlkP X scope fun Y => PE Y vx (tE X.K ev))
    (ok : blkC X.N X.env.scope scope own = true := by kernel_rfl) (hsub : ∀ j ∈ is, j ∈ own.map (·.2) := by decide) (hc : X.calm = true := by rfl) (hs : ∀ x, foldedSetIterable iter X.env x = pure x := by intro _; rfl) : PE X (.DictComp kx vx [⟨tg, iter, ifs, 0⟩] scope pos) (tF X.K (dcE false it b tt ek ev (own.map (·.2)))) :=
  pe_weak (pe_dc (own := own) hc hN hi (blkOk_by ok) hg ht hk he hs) fun σ H Q h => dcK_fl hsub h
theorem s_dcK (i : Nat) (own : List (Str × Nat)) (hN : X.N.Nodup) (hi : PI X tg iter (tI X.K it))
    (hg : BlkP X scope fun Y => PG Y tg (tG X.K is b)) (ht : BlkP X scope fun Y => PTs Y ifs (tT' X.K tt)) (hk : BlkP X scope fun Y => PE Y kx (tE X.K ek)) (he : BlkP X scope fun Y => PE Y vx (tE X.K ev))
    (hy : X.N[i]? = some y := by rfl) (hyl : X.env.scope.names.lookup y = some .local := by rfl)
    (hsw : swapsWith (.DictComp kx vx [⟨tg, iter, ifs, 0⟩] scope pos) (some (.Name y py)) spos.line X.env = pure true := by exact swd_true rfl rfl rfl (by decide +kernel))
    (ok : blkC X.N X.env.scope scope own = true := by kernel_rfl) (hsub : ∀ j ∈ is, j ∈ own.map (·.2) := by decide) (hc : X.calm = true := by rfl) (hs : ∀ x, foldedSetIterable iter X.env x = pure x := by intro _; rfl) : PS X (.Assign [.Name y py] (.DictComp kx vx [⟨tg, iter, ifs, 0⟩] scope pos) spos) (tS X.K (setO i (dcE false it b tt ek ev (own.map (·.2))))) :=
  s_setOA i (ps_setDcK (own := own) hc hN hy hyl hsw hi (blkOk_by ok) hg ht hk he hs) fun σ H Q h => dcK_fl hsub h
theorem f_dcT (own : List (Str × Nat)) (hu : X.A.units + 65 < cLine) (hN : X.N.Nodup) (hi : PI X tg iter (tI X.K it))
    (hg : BlkP X scope fun Y => PG Y tg (tG X.K is b)) (ht : BlkP X scope fun Y => PTs Y ifs (tT' X.K tt)) (hk : BlkP X scope fun Y => PE Y kx (tE X.K ek)) (he : BlkP X scope fun Y => PE Y vx (tE X.K ev))
    (ok : blkC X.N X.env.scope scope own = true := by kernel_rfl) (hsub : ∀ j ∈ is, j ∈ own.map (·.2) := by decide) (hc : X.calm = true := by rfl) (hs : ∀ x, foldedSetIterable iter X.env x = pure x := by intro _; rfl) : PE X (.DictComp kx vx [⟨tg, iter, ifs, 0⟩] scope pos) (tF X.K (dcE true it b tt ek ev (own.map (·.2)))) :=
  pe_weak (pe_dcT (own := own) (by omega) hc hN hi (blkOk_by ok) hg ht hk he hs) fun σ H Q h => dcT_fl hsub h
theorem s_dcT (i : Nat) (own : List (Str × Nat)) (hu : X.A.units + 65 < cLine) (hN : X.N.Nodup) (hi : PI X tg iter (tI X.K it))
    (hg : BlkP X scope fun Y => PG Y tg (tG X.K is b)) (ht : BlkP X scope fun Y => PTs Y ifs (tT' X.K tt)) (hk : BlkP X scope fun Y => PE Y kx (tE X.K ek)) (he : BlkP X scope fun Y => PE Y vx (tE X.K ev))
    (hy : X.N[i]? = some y := by rfl) (hyl : X.env.scope.names.lookup y = some .local := by rfl)
    (hsw : swapsWith (.DictComp kx vx [⟨tg, iter, ifs, 0⟩] scope pos) (some (.Name y py)) spos.line X.env = pure true := by exact swd_true rfl rfl rfl (by decide +kernel))
    (ok : blkC X.N X.env.scope scope own = true := by kernel_rfl) (hsub : ∀ j ∈ is, j ∈ own.map (·.2) := by decide) (hc : X.calm = true := by rfl) (hs : ∀ x, foldedSetIterable iter X.env x = pure x := by intro _; rfl) : PS X (.Assign [.Name y py] (.DictComp kx vx [⟨tg, iter, ifs, 0⟩] scope pos) spos) (tS X.K (setO i (dcE true it b tt ek ev (own.map (·.2))))) :=
  s_setOA i (ps_setDcT (own := own) (by omega) hc hN hy hyl hsw hi (blkOk_by ok) hg ht hk he hs) fun σ H Q h => dcT_fl hsub h
end
end FL
end
section
set_option maxHeartbeats 4000000
/-! FL: sorted(rows, reverse=True). -/
namespace FL
open PySem PySem.Spec PyProof.Rows L2
section
variable {X : Cx}
theorem dataGe_tups : PySem.W.dataLe true (fun b : List Int => PyData.tuple (b.map .int)) = fun p q => decide (q ≤ p) := by
  funext p q
  exact congrFun (congrFun dataLe_tups q) p
theorem mergeRR (l : List (List Int)) : l.mergeSort (fun p q => decide (q ≤ p)) = (srtR l).reverse := by
  have hp := (List.mergeSort_perm l (fun p q : List Int => decide (q ≤ p)))
  have hs := List.pairwise_mergeSort (le := fun p q : List Int => decide (q ≤ p)) (fun a b c h1 h2 => by
    rw [decide_eq_true_eq] at *; exact List.le_trans h2 h1) (fun a b => by
    simp only [Bool.or_eq_true, decide_eq_true_eq]; exact List.le_total b a) l
  have h1 : (l.mergeSort (fun p q : List Int => decide (q ≤ p))).reverse = srtR l := by
    refine rows_uniq (((List.reverse_perm _).trans hp).trans (srtR_perm l).symm) ?_ (srtR_sorted l)
    rw [List.pairwise_reverse]
    exact hs.imp fun h => by simpa using h
  rw [← h1, List.reverse_reverse]
abbrev rSortRR (K : PySem.W.Frag) : List V → List V → Hp → VK → Prop := fun vs zs H Q => ∃ (a : Addr) (xs : List V) (bs : List (List Int)) (S : V → List Int → Prop), vs = [V.ref a] ∧ zs = [.bl true] ∧ SqL K H a xs ∧ PySem.W.EachIs (fun x b => RowV K H x b ∧ S x b) xs bs ∧ (∀ b ∈ bs, b ≠ []) ∧
  ∀ (ys : List V) (p : Addr), PySem.W.EachIs (fun x b => RowV K H x b ∧ S x b) ys (srtR bs).reverse → H p = none → Q (.ref p) (upd H p (.lst ys))
theorem cr_sortRR (hu : X.A.units + 64 < cLine) : CallRK X (.builtin "sorted") [Str.ofString "reverse"] (rSortRR X.K) := by
  intro pins s σ H vs zs us ws Q I r rz h
  obtain ⟨a, xs, bs, S, rfl, rfl, hs, he, hne, q⟩ := h
  obtain ⟨its, rv, hl, hz⟩ := I.list hs
  obtain rfl := Vals.ref1 r
  obtain ⟨w1, rfl, ez⟩ := vals1 rz
  obtain rfl : w1 = Value.bool true := ez
  have e1 := each_rel rv he
  have hlen : its.length = bs.length := e1.length
  have hlx := rv.length
  refine PySem.W.sorted_rev_data (b := true) (enc := fun b => .tuple (b.map .int)) (R := fun u b => ∃ x, RelV x u ∧ (RowV X.K H x b ∧ S x b)) hl.isList e1 (e1.mono fun u b ⟨x, rx, hx⟩ => rowReads I hx.1 rx)
    (fun d hd d' hd' => ?_) (.inl fun d hd => ?_) (by omega) (fun b hb => ?_) (fun out hout ho => ?_)
  · obtain ⟨b, _, rfl⟩ := List.mem_map.mp hd
    obtain ⟨b', _, rfl⟩ := List.mem_map.mp hd'
    show PySem.W.alikeAll _ _ = true
    exact alikeI b b'
  · obtain ⟨b, hb, rfl⟩ := List.mem_map.mp hd
    cases b with
    | nil => exact absurd rfl (hne [] hb)
    | cons x r => exact ⟨_, _, rfl⟩
  · have hd : (PyData.tuple (b.map .int)).depth = 1 := by
      rw [PyData.depth, PySem.W.depth_ints]
    rw [hd]
    omega
  · rw [dataGe_tups, mergeRR] at ho
    obtain ⟨ys, hv, hy⟩ := each_back ho
    obtain ⟨ep, he'⟩ := PyProof.Rows.sortedAll_at s.heap its out.toArray
    have hyl := hv.length
    exact ⟨.ref _, upd H (s.heap.objs.size + 1) (.lst ys), I.laid (t' := s.toks) (fun _ _ => PyProof.Rows.sortedAll_old) (Nat.le_succ _) ⟨by omega, out, ep, hv, he'⟩, rfl, q _ _ hy (I.hok.fresh (Nat.le_succ _))⟩
abbrev rSortRE (K : PySem.W.Frag) : List V → List V → Hp → VK → Prop := fun vs zs H Q => ∃ (a : Addr) (xs : List V), vs = [V.ref a] ∧ zs = [.bl true] ∧ SqL K H a xs ∧ xs.length < 2 ∧ ∀ (p : Addr), H p = none → Q (.ref p) (upd H p (.lst xs))
theorem rev_short {α : Type} {l : List α} (h : l.length < 2) : l.reverse = l := by
  match l, h with
  | [], _ => rfl
  | [x], _ => rfl
theorem cr_sortRE : CallRK X (.builtin "sorted") [Str.ofString "reverse"] (rSortRE X.K) := by
  intro pins s σ H vs zs us ws Q I r rz h
  obtain ⟨a, xs, rfl, rfl, hs, hlt, q⟩ := h
  obtain ⟨its, rv, hl, hz⟩ := I.list hs
  obtain rfl := Vals.ref1 r
  obtain ⟨w1, rfl, ez⟩ := vals1 rz
  obtain rfl : w1 = Value.bool true := ez
  have hlx := rv.length
  refine SrtR.sorted_ordK (b := true) (ltv := fun _ _ => false) (fun _ => rfl) (PyProof.Rows.args_sorted_rev _ _) (fun _ => PyProof.Rows.args_list_sort_rev _ _) swoF hl.isList (by rw [← hlx]; exact hz) (fun h2 => absurd h2 (by omega)) fun out h1 h2 => ?_
  obtain ⟨ep, he'⟩ := PyProof.Rows.sortedAll_at s.heap its (if (true : Bool) = true then out.toArray.reverse else out.toArray)
  have hits : its.reverse = its := rev_short (by omega)
  have hp : out.Perm its := by
    have := h2.1
    rw [if_pos rfl, hits] at this
    exact this
  have hout : out = its := shortPerm hp (by omega)
  subst hout
  have e0 : (if (true : Bool) = true then out.toArray.reverse else out.toArray) = out.toArray := by
    rw [if_pos rfl]
    exact (List.reverse_toArray ..).trans (by rw [hits])
  rw [e0] at he' ⊢
  exact ⟨.ref _, upd H (s.heap.objs.size + 1) (.lst xs), I.laid (t' := s.toks) (fun _ _ => PyProof.Rows.sortedAll_old) (Nat.le_succ _) ⟨hz, out, ep, rv, he'⟩, rfl, q _ (I.hok.fresh (Nat.le_succ _))⟩
def dSortRA (d : D) : Option D := match d with
  | .lst ds => if ds.length < 2 then some (.lst ds) else match intsOf ds with
    | some ns => some (.lst ((srtI ns).reverse.map .int))
    | none => match rowsOf ds with
      | some bs => if (bs.all fun b => !b.isEmpty) = true then some (.lst ((srtR bs).reverse.map rowD)) else none
      | none => none
  | .tup ds => (intsOf ds).map fun ns => .lst ((srtI ns).reverse.map .int)
  | _ => none
variable {e : Expr} {f : EF} {p pos kp p2 : Pos} {k : Nat}
theorem f_sortRA (hu : X.A.units + 64 < cLine) (hm : X.mg "sorted" = none) (he : PE X e (tB X.K f)) (hg : Gl X "sorted" := by rfl) (hv : bootBuiltins "sorted" = some (.builtin "sorted") := by first | assumption | decide +kernel)
    (hs : starEach [e] X.env = (false, eval e X.env) :: starEach [] X.env := by rfl) (hb : backTo pos (starEach [e] X.env) = (false, eval e X.env) :: backTo pos (starEach [] X.env) := by rfl) (hpl : (backTo pos (starEach [e] X.env)).any (·.1) = false := by rfl) :
    PE X (.Call (.Name "sorted" p) [e] [⟨some "reverse", .Constant (.bool true) k p2, kp⟩] pos) (tF X.K (b1 dSortRA f)) :=
  pe_weak (pe_callBK (CallRK.or (CallRK.or cr_sortedRev cr_sortRT) (CallRK.or (cr_sortRR hu) cr_sortRE)) hg hm hv (pa_cons he pa_nil hs) (pk_cons pe_bl pk_nil) (by decide) (by decide) hb hpl) fun σ H Q ⟨c, F, ρ, ω, d, ω', w, e, q⟩ => by
    obtain ⟨x, ω1, e1, e⟩ := bnd_some e
    obtain ⟨e4, rfl⟩ := opt_some e
    refine ⟨c, F, ρ, ω, x, _, w, e1, fun F1 H1 v p1 r1 => ?_⟩
    have fin : ∀ (ns ns' : List Int) (p : Addr), d = .lst ((srtI ns).reverse.map .int) → ns'.Perm ns → OrdB true ns' → H1 p = none → Q (.ref p) (upd H1 p (.lst (ns'.map V.int))) := fun ns ns' t hd h1 h2 ht => by
      subst hd
      rw [sortedR_uniq h1 h2]
      exact q _ _ _ (p1.trans (Post.fresh p1.le p1.ora ht)) (none_back p1 ht) (same_none p1.le ht) ⟨_, upd_same, reps_ints _⟩
    unfold dSortRA at e4
    split at e4
    · rename_i ds
      obtain ⟨p, vs, rfl, h1, r⟩ := r1.lst p1.le
      have hl := r.length
      split at e4
      · cases e4
        exact .inr (.inr ⟨p, vs, rfl, rfl, .inl (.inl h1), by omega, fun l hl => q _ _ _ (p1.trans (Post.fresh p1.le p1.ora hl)) (none_back p1 hl) (same_none p1.le hl) ⟨_, upd_same, r⟩⟩)
      · split at e4
        · rename_i ns e5
          cases e4
          cases intsOf_eq e5
          cases r.ints
          exact .inl (.inl ⟨p, ns, rfl, rfl, .inl (.inl h1), fun ns' t a b c => fin ns ns' t rfl a b c⟩)
        · split at e4
          · rename_i bs e5
            split at e4
            · rename_i hb
              cases e4
              cases rowsOf_eq e5
              refine .inr (.inl ⟨p, vs, bs, _, rfl, rfl, .inl (.inl h1), reps_rows p1.le r, fun b hb' => ?_, fun ys l he hl => ?_⟩)
              · have := List.all_eq_true.mp hb b hb'
                intro z; subst z; cases this
              · exact q _ _ _ (p1.trans (Post.fresh p1.le p1.ora hl)) (none_back p1 hl) (same_none p1.le hl) ⟨_, upd_same, each_reps (each_right he)⟩
            · cases e4
          · cases e4
    · rw [Option.map_eq_some_iff] at e4
      obtain ⟨ns, e5, rfl⟩ := e4
      cases intsOf_eq e5
      obtain ⟨p, vs, rfl, h1, r⟩ := r1.tup p1.le
      cases r.ints
      exact .inl (.inr ⟨p, ns, rfl, rfl, h1, fun ns' t a b c => fin ns ns' t rfl a b c⟩)
    · cases e4
end
end FL
end
section
set_option maxHeartbeats 4000000
/-! FL: {(a, b): v}, one pair with a tuple for a key. -/
namespace PySem
open Sem (wp)
section
variable {prog : Program} {w : World} {K : Type} [DecidableEq K] {knd : HeapKind prog w K} {A : Around} {E : Value → Shared → Prop} {s : Shared}
theorem wpAny_Dict_pairsR {env : Env} {keys : List (Option Expr)} {values : List Expr} {pos : Pos} {pairs : List (Sem Value × Sem Value)} {Q : Value → Shared → Prop} (hu : knd.room A)
    (hshape : (evalEachOpt keys env).zip ((evalEach values env).map fun v => do let x ← v; standAt pos; pure x) = pairs.map fun p => (some p.1, p.2)) (h0 : pairs ≠ []) (hlen : pairs.length ≤ 15)
    (h : wpAny (model prog w) A (evalPairs pairs) (fun vs s₁ => ∃ ps, CarriesH knd s₁.heap vs ps ∧ s₁.heap.DictOfH knd s.heap.objs.size [] ∧
      ∀ h' tk, h'.DictOfH knd s.heap.objs.size (storedAllH [] ps) → Heap.SameBut s.heap.objs.size s₁.heap h' → Q (.ref s.heap.objs.size) { s₁ with heap := h', toks := tk }) E
      { s with heap := s.heap.push { cls := .type "dict", data := .dict #[] } }) :
    wpAny (model prog w) A (eval (.Dict keys values pos) env) Q E s := by
  rw [arm_eval_Dict, hshape, dictDisplay_pairs pairs h0 (by omega)]
  exact wpAny_bind (wpAny_standAt (wpAny_bind (wpAny_subDictH (knd := knd) (Q := fun d s' => wpAny (model prog w) A (pure (Value.ref d)) Q E s') hu hlen
    (wpAny_mono h (fun vs s₁ h₁ => by obtain ⟨ps, hc, hm, hq⟩ := h₁; exact ⟨ps, hc, hm, fun h' tk a b => wpAny_pure (hq h' tk a b)⟩) fun _ _ e => e))))
end
end PySem
namespace FL
open PySem PySem.Spec PyProof.Rows L2
section
variable {X : Cx} {pos : Pos}
def tDispT1 (tk tv : TE) : TE := fun σ H Q => ∀ p, H p = none → tk σ (upd H p (.dT [])) fun x H1 => tv σ H1 fun y H2 => H2 p = some (.dT []) ∧ ∃ (key : List Key) (b : Addr), x = .ref b ∧ H2 b = some (.tup (key.map kV)) ∧ Q (.ref p) (upd H2 p (.dT [(key, y)]))
theorem pe_dispT1 {k v : Expr} {tk tv : TE} (hu : X.A.units + 64 < cLine) (hk : PE X k tk) (hv : PE X v tv) : PE X (.Dict [some k] [v] pos) (tDispT1 tk tv) := by
  refine ⟨fun pins s σ H Q I q => ?_⟩
  have hn := I.hok.fresh (Nat.le_refl s.heap.objs.size)
  have I1 := I.laid (a := s.heap.objs.size) (o := .dT []) (h' := s.heap.push { cls := .type "dict", data := .dict #[] }) (t' := s.toks) (fun _ _ q => Heap.get?_push_of_some _ q) (Nat.le_refl _) (dt_empty s.heap I.big)
  have hp : PPs X pos [some k] [v] [(tk, tv)] := pps_cons hk hv pps_nil
  have hq := q _ hn
  refine wpAny_Dict_pairsR (knd := tupleKind (mixKind X.prog X.w)) (pairs := pairTrees [some k] [v] X.env pos) (show X.A.units < cLine by omega) (zip_pairTrees _ _ _ _ rfl rfl) (by
    intro z
    have := pairTrees_length [some k] [v] X.env pos rfl rfl
    rw [z] at this
    cases this) (by rw [pairTrees_length _ _ _ _ rfl rfl]; show 1 ≤ 15; omega) (thn (hp.run pins _ σ _ (fun ps H2 => match ps with
      | [(x, y)] => H2 s.heap.objs.size = some (.dT []) ∧ ∃ (key : List Key) (b : Addr), x = .ref b ∧ H2 b = some (.tup (key.map kV)) ∧ Q (.ref s.heap.objs.size) (upd H2 s.heap.objs.size (.dT [(key, y)]))
      | _ => False) I1 hq) fun ws s2 ⟨ps, H2, I2, rel, q2⟩ => ?_)
  match ps, q2 with
  | [(x, y)], ⟨e, key, b, ex, eb, q3⟩ =>
    subst ex
    cases rel with
    | @cons p1 q1 ps1 qs1 h t =>
      cases t
      obtain ⟨h1, h2⟩ := h
      obtain ⟨u, w1⟩ := q1
      cases (show u = Value.ref b from h1)
      obtain ⟨z, hd, xs, r0, dd⟩ := dt_of I2.hok e
      cases r0
      refine ⟨[(key, b, w1)], ⟨rfl, rfl, key_of I2.hok eb, trivial⟩, dd, fun h' tk dd' hs => ?_⟩
      obtain ⟨o, es, ep, hq1, g2, g3, g4, g5, g6⟩ := dd'
      have rel2 : KT H2 [(key, y)] (storedAllH [] [(key, b, w1)]) := KT.put .nil key eb h2
      refine ⟨.ref s.heap.objs.size, upd H2 s.heap.objs.size (.dT [(key, y)]), d_write I2 (by rw [e]; exact True.intro) hs ⟨o, hq1⟩ ⟨by rw [sizeLine_eq]; show 1 ≤ _; omega, hd, _, rel2.keeps fun c ys ec => ?_, o, es, ep, hq1, g2, g3, g4, g6⟩, rfl, q3⟩
      rw [upd_ne (ne_of ec e (fun z => nomatch z))]
      exact ec
def eDsp1 (f g : EF) : EF := fun ρ => bnd (f ρ) fun k => bnd (g ρ) fun v => opt (if okK true k = true then some (.dic true [(k, v)]) else none)
theorem f_dispT1 {k v : Expr} {f g : EF} (hu : X.A.units + 64 < cLine) (hk : PE X k (tE X.K f)) (hv : PE X v (tE X.K g)) : PE X (.Dict [some k] [v] pos) (tF X.K (eDsp1 f g)) :=
  pe_weak (pe_dispT1 hu hk hv) fun σ H Q ⟨c, F, ρ, ω, d, ω', w, e, q⟩ => by
    obtain ⟨kd, ω1, e1, e⟩ := bnd_some e
    obtain ⟨vd, ω2, e2, e⟩ := bnd_some e
    obtain ⟨e3, rfl⟩ := opt_some e
    split at e3
    · rename_i ok
      cases e3
      unfold okK at ok
      rw [if_pos rfl, Option.isSome_iff_exists] at ok
      obtain ⟨key, hkey⟩ := ok
      cases keyT_eq hkey
      intro p hp
      have hF : F p = none := same_none w.post.le hp
      have pf := Post.fresh (u := .dT []) w.post.le w.post.ora hp
      have w0 := w.ext pf
      have qf : Qfree c.q p := qfree_none w.post.ora hp
      refine ⟨c, F, ρ, ω, _, ω1, w0, e1, fun F1 H1 x p1 r1 => ⟨c, F1, ρ, ω1, vd, _, w0.ext p1, e2, fun F2 H2 y p2 r2 => ?_⟩⟩
      have hH1 : H1 p = some (.dT []) := p1.kept _ _ upd_same qf
      have hH2 : H2 p = some (.dT []) := p2.kept _ _ hH1 qf
      have hF2 : F2 p = none := by rw [p2.new p (by rw [hH1]; trivial), p1.new p (by rw [upd_same]; trivial)]; exact hF
      obtain ⟨bb, rfl, hbb⟩ := Vw.keyT (.inl (r1.mono p2.le0)) p2.le
      exact ⟨hH2, key, bb, rfl, hbb, q F2 _ p (((pf.trans p1).trans p2).upd_free w.post.ora hp hF2) hp hF2 ⟨_, upd_same, RepKt.nil.put r2⟩⟩
    · cases e3
end
section
variable {X : Cx} {f g h : EF} {pos : Pos} {x y z : Str} {e1 e2 e3 : Expr} {px py pz pt pt2 : Pos} {kt k2 : Nat}
/-- a, b, c = e1, e2, e3: plain local names -/
def par3S (i j l : Nat) (f g h : EF) : SF := fun ρ => bnd (f ρ) fun x => bnd (g ρ) fun y => bnd (h ρ) fun z => ret (.nx (sset (sset (sset ρ i (.d x)) j (.d y)) l (.d z)))
theorem s_par3 (i j l : Nat) (hN : X.N.Nodup) (hij : i ≠ j) (hil : i ≠ l) (hjl : j ≠ l) (h1 : PE X e1 (tE X.K f)) (h2 : PE X e2 (tE X.K g)) (h3 : PE X e3 (tE X.K h)) (hi : X.N[i]? = some x := by rfl) (hj : X.N[j]? = some y := by rfl) (hl : X.N[l]? = some z := by rfl)
    (hx : X.env.scope.names.lookup x = some .local := by rfl) (hy : X.env.scope.names.lookup y = some .local := by rfl) (hz : X.env.scope.names.lookup z = some .local := by rfl) (hc : X.calm = true := by rfl)
    (hw : swappedStores [.Tuple [.Name x px, .Name y py, .Name z pz] kt pt] (.Tuple [e1, e2, e3] k2 pt2) X.env = pure (some [x, y, z]) := by rfl)
    (hs : swapsWithSole [.Tuple [.Name x px, .Name y py, .Name z pz] kt pt] (.Tuple [e1, e2, e3] k2 pt2) pos.line X.env = pure false := by rfl)
    (na : starEach [e1, e2, e3] X.env = (false, eval e1 X.env) :: starEach [e2, e3] X.env := by rfl) (nb : starEach [e2, e3] X.env = (false, eval e2 X.env) :: starEach [e3] X.env := by rfl) (nc : starEach [e3] X.env = (false, eval e3 X.env) :: starEach [] X.env := by rfl) :
    PS X (.Assign [.Tuple [.Name x px, .Name y py, .Name z pz] kt pt] (.Tuple [e1, e2, e3] k2 pt2) pos) (tS X.K (par3S i j l f g h)) :=
  ps_weak (ps_par3 hc hN hi hj hl hij hil hjl hx hy hz (pa_cons h1 (pa_cons h2 (pa_cons h3 pa_nil nc) nb) na) hw hs) fun D σ H ⟨c, F, ρ, ω, o, ω', w, e, k⟩ => by
    obtain ⟨x1, ω1, g1, e⟩ := bnd_some e
    obtain ⟨y1, ω2, g2, e⟩ := bnd_some e
    obtain ⟨z1, ω3, g3, e⟩ := bnd_some e
    obtain ⟨rfl, rfl⟩ := ret_some e
    exact ⟨c, F, ρ, ω, x1, ω1, w, g1, fun F1 H1 v p1 r1 => ⟨c, F1, ρ, ω1, y1, ω2, w.ext p1, g2, fun F2 H2 u p2 r2 => ⟨c, F2, ρ, ω2, z1, _, (w.ext p1).ext p2, g3, fun F3 H3 t p3 r3 => ⟨v, u, t, rfl, k F3 H3 _ ((((((w.ext p1).ext p2).ext p3).set_d ((r1.mono p2.le0).mono p3.le0) i).set_d (r2.mono p3.le0) j).set_d r3 l)⟩⟩⟩⟩
end
end FL
end
section
set_option maxHeartbeats 2000000
/-! FL: all(..), any(..) of a generator expression. -/
namespace FL
open PySem PySem.Spec PyProof.Rows L2

theorem keeps_refl (s : Shared) : Keeps s s := ⟨s.heap, s.toks, rfl, fun _ _ e => e⟩
theorem keeps_tok (s : Shared) (k : Nat) : Keeps s { s with toks := k } := ⟨s.heap, k, rfl, fun _ _ e => e⟩
theorem keeps_trans {a b c : Shared} (x : Keeps a b) (y : Keeps b c) : Keeps a c := by
  obtain ⟨h1, t1, rfl, k1⟩ := x
  obtain ⟨h2, t2, rfl, k2⟩ := y
  exact ⟨h2, t2, rfl, fun b o e => k2 b o (k1 b o e)⟩

/-- a look at the generator's own names -/
def genC (dsc scope : Scope) (xs : List Str) : Bool := decide (scope.kind = .function) && !scope.isCoroutine && scope.names.all (fun y => !decide (y.2 = .cell)) && decide (scope.names.lookup (".0" : Str) = some .local) && xs.all (fun x => decide (scope.names.lookup x = some .local)) &&
  scope.names.all (fun y => !decide (y.2 = .free) || decide (dsc.names.lookup y.1 = some .cell))
structure GenOk (X : Cx) (scope : Scope) (xs : List Str) : Prop where
  kind : scope.kind = .function
  co : scope.isCoroutine = false
  cell : ∀ y ∈ scope.names, y.2 ≠ .cell
  dot : scope.names.lookup (".0" : Str) = some NameKind.local
  loc : ∀ x ∈ xs, scope.names.lookup x = some .local
  free : ∀ y ∈ scope.names, y.2 = .free → X.env.scope.names.lookup y.1 = some .cell
theorem genOk_by {X : Cx} {scope : Scope} {xs : List Str} (h : genC X.env.scope scope xs = true) : GenOk X scope xs := by
  unfold genC at h
  simp only [Bool.and_eq_true, Bool.not_eq_true', decide_eq_true_eq, List.all_eq_true, Bool.or_eq_true, decide_eq_false_iff_not] at h
  obtain ⟨⟨⟨⟨⟨h1, h2⟩, h3⟩, h4⟩, h5⟩, h6⟩ := h
  exact ⟨h1, h2, h3, h4, h5, fun y hy e => (h6 y hy).resolve_left fun z => z e⟩
theorem GenOk.fr {X : Cx} {scope : Scope} {xs : List Str} (h : GenOk X scope xs) (ok : X.Ok) : ∀ y ∈ scope.names, y.2 = .free → ∃ c, X.env.cells.lookup y.1 = some c := fun y hy e => ok.has _ (.inl (h.free y hy e))
theorem GenOk.s {X : Cx} {scope : Scope} {x : Str} (h : GenOk X scope [x]) (ok : X.Ok) : GxR.GenS X.env scope x := ⟨h.kind, h.co, h.cell, h.dot, h.loc x (by simp), h.fr ok⟩
/-! ### the walk, with any source -/
def SrcQ (X : Cx) (pins : List (Addr × Obj)) (σ : L2.St) (P : Addr) (scope : Scope) (x : Str) (elt : Expr) (R : List Bool → Hp → Prop) (it : Value) (s2 : Shared) : Prop :=
  ∃ (s1 : Shared) (H1 : Hp) (h2 : Heap) (t2 : Nat) (Ia : Addr) (fp wr : List Addr) (bs : List Bool) (Pf : Nat → Value → Prop) (St : Nat → Heap → Prop),
    s2 = { s1 with heap := h2, toks := t2 } ∧ it = .ref Ia ∧ Inv X pins σ H1 s1 ∧ (∀ b o, s1.heap.get? b = some o → h2.get? b = some o) ∧ s1.heap.objs.size ≤ h2.objs.size ∧ (∀ b ∈ wr, s1.heap.objs.size ≤ b) ∧
    (∀ A' : Around, A'.handled = none → Walks X.prog X.w A' Ia fp wr bs.length Pf St) ∧ St 0 h2 ∧ (∀ b ∈ fp, b < h2.objs.size ∧ b ≠ P) ∧ GxR.TabG H1 P ∧ R bs H1 ∧
    ∀ (i : Nat) (v : Value) (cenv : PySem.Env) (A' : Around) (E' : Value → Shared → Prop) (s₂ : Shared) (m₂ : Str → Option Value), A'.handled = none → Pf i v → cenv.scope = scope → cenv.cells = cloFrom X.env.cells scope.names [] → s₂.heap.Ns cenv.locals m₂ → m₂ x = some v →
      (∀ b o, b ≠ P → s1.heap.get? b = some o → s₂.heap.get? b = some o) → wpAny (model X.prog X.w) A' (eval elt cenv) (fun y s₃ => (∃ b, bs[i]? = some b ∧ y = .bool b) ∧ Keeps s₂ s₃) E' s₂
/-- the generator is ready -/
def ReadyG (X : Cx) (pins : List (Addr × Obj)) (σ : L2.St) (P : Addr) (H1 : Hp) (bs : List Bool) (g : Addr) (s5 : Shared) : Prop :=
  ∃ (fp wr : List Addr) (G : Array GenState → Array GenState → Prop) (F : Nat → Value → Prop) (St : Nat → Shared → Prop),
    WalksS X.prog X.w X.A.in1 g fp wr G bs.length F St ∧ St 0 s5 ∧ TruthOf X.prog X.w X.A.in1 F (fun j => bs.getD j false) ∧
    ∀ s', Moved wr G s5 s' → ∃ H2, GxR.Tabbed P H1 H2 ∧ Inv X pins σ H2 s'
section
variable {X : Cx} {pins : List (Addr × Obj)} {σ : L2.St} {H : Hp} {s : Shared}
theorem gen_core {c P : Addr} {elt iter : Expr} {x : Str} {px gpos : Pos} {scope : Scope} {k : Nat} {Q' : Value → Shared → Prop} {R : List Bool → Hp → Prop}
    (hr : Room k X.A) (TB : GxR.TabB X.base X.mg c P) (hcode : X.env.code = .ref c) (S : GxR.GenS X.env scope x) (hs : ∀ v, genFold iter X.env v = pure v)
    (h : wpAny (model X.prog X.w) X.A (eval iter X.env) (fun xv s1 => wpAny (model X.prog X.w) X.A (pyIter xv) (SrcQ X pins σ P scope x elt R) X.xe s1) X.xe s)
    (hQ : ∀ bs H1 g s5, R bs H1 → ReadyG X pins σ P H1 bs g s5 → Q' (.ref g) s5) :
    wpAny (model X.prog X.w) X.A (eval (.GeneratorExp elt [⟨.Name x px, iter, [], 0⟩] scope gpos) X.env) Q' X.xe s := by
  refine wpAny_GeneratorExp_walksQ hr.hd S.co (closure_ok S.free) S.cell S.dot S.loc S.kind (by have := hr.dp; omega) ?_ hs
  refine wpAny_mono h (fun xv s0 h0 => wpAny_mono h0 (fun it s2 hsrc => ?_) fun _ _ e => e) fun _ _ e => e
  obtain ⟨s1, H1, h2, t2, Ia, fp, wr, bs, Pf, St, rfl, rfl, I1, k12, z12, hwr, W, hst, hfp, ⟨ps, hP, ht⟩, q1, hel⟩ := hsrc
  have hPs : s1.heap.get? P = some { cls := .none, data := .fields ps } := I1.hok P _ hP
  have hPlt : P < s1.heap.objs.size := Heap.lt_size hPs
  have hP2 : h2.get? P = some { cls := .none, data := .fields ps } := k12 _ _ hPs
  have cd : PySem.W.CodeHd h2 c P := TB.code.keeps fun b u e => k12 _ _ (I1.bk b u e)
  have lim2 : h2.NoLimit := I1.nolimit.keeps k12
  have cont : ∀ (code : Value) (h3 : Heap) (tk : Nat) (ps' : Array Value), Heap.ExtBut P h2 h3 → h2.objs.size ≤ h3.objs.size → h3.get? P = some { cls := .none, data := .fields ps' } → (∃ more, ps' = ps ++ more) → TriplesOk ps'.toList →
      wpAny (model X.prog X.w) X.A (builtinsFor X.env.globals X.env.builtins) (fun bi s₄ =>
        ∃ Ib fp wr n₀ Pf St₀ pz F, Value.ref Ia = .ref Ib ∧ (∀ A' : Around, A'.handled = none → Walks X.prog X.w A' Ib fp wr n₀ Pf St₀) ∧ St₀ 0 s₄.heap ∧ (∀ b ∈ fp, b < s₄.heap.objs.size) ∧ s₄.heap.NoLimit ∧ cStatics ∉ wr ∧
          (∀ href : Heap, (∀ b o, s₄.heap.get? b = some o → href.get? b = some o) →
            QuietGen X.prog X.w (genEnv scope (cloFrom X.env.cells scope.names []) s₄.heap.objs.size code bi X.env) x [] elt (List.range s₄.heap.objs.size) wr Pf pz F href) ∧
          (∀ a h₅ tk gs, gs.bare = true → s₄.heap.objs.size < a → h₅.objs.size = a + 1 → (∀ b o, s₄.heap.get? b = some o → h₅.get? b = some o) →
            WalksS X.prog X.w X.A.in4 a (a :: s₄.heap.objs.size :: List.range s₄.heap.objs.size) (s₄.heap.objs.size :: wr) (GenOnlyQ s₄.gens.size) (passing pz n₀ 0).length
              (fun j y => ∃ i, (passing pz n₀ 0)[j]? = some i ∧ F i y) (GenAt X.prog X.w X.A.in4 a s₄.gens.size s₄.heap.objs.size (List.range s₄.heap.objs.size) wr pz n₀ F) →
            GenAt X.prog X.w X.A.in4 a s₄.gens.size s₄.heap.objs.size (List.range s₄.heap.objs.size) wr pz n₀ F 0 { s₄ with gens := s₄.gens.push gs, toks := tk, heap := h₅ } →
            Q' (.ref a) { s₄ with gens := s₄.gens.push gs, toks := tk, heap := h₅ })) X.xe { s1 with heap := h3, toks := tk } := by
    intro code h3 tk ps' hx hsz hP3 hmore ht3
    obtain ⟨bm, ob, e1, e2, e3, e4, e5, e6, e7, e8⟩ := TB.bm
    have hcP : cStatics ≠ P := fun e => by
      obtain ⟨_, hns, _⟩ := I1.nolimit
      obtain ⟨o', es, ep, ho, hd, _⟩ := hns
      rw [e, hPs] at ho
      cases ho
      cases hd
    have hcl : cStatics < s1.heap.objs.size := let ⟨_, hns, _⟩ := I1.nolimit; hns.lt
    have keep3 : ∀ b u, b ≠ P → s1.heap.get? b = some u → h3.get? b = some u := fun b u hb e => hx b u hb (k12 _ _ e)
    refine wpAny_builtinsFor (m := X.mg) (by rw [I1.ok.glob]; exact (I1.mod.glob.keeps fun b u e => k12 _ _ (I1.bk b u e)).extBut hx TB.gP) e1 e2 (keep3 _ _ e4 (I1.bk _ _ e5)) e6 e7 e8 ?_
    refine ⟨Ia, fp, wr, bs.length, Pf, St, (fun _ => true), (fun i y => ∃ b, bs[i]? = some b ∧ y = .bool b), rfl, W, ?_, ?_, lim2.extBut hx hcP, ?_, ?_, ?_⟩
    · exact (W X.A hr.hd).frame _ _ _ hst fun b hb u e => hx b u (hfp b hb).2 e
    · intro b hb
      exact Nat.lt_of_lt_of_le (hfp b hb).1 hsz
    · intro z
      exact absurd (hwr _ z) (Nat.not_le_of_lt hcl)
    · intro href hhref
      refine ⟨fun A' E' i v s₂ m₂ hA hPv hn hm hk => ?_, fun A' E' i v s₂ m₂ hA hPv hp hn hm hk => ?_⟩
      · simp only [List.forIn_nil]
        exact wpAny_pure ⟨rfl, keeps_refl _⟩
      · refine hel i v _ A' E' s₂ m₂ hA hPv rfl rfl hn hm fun b o hb e => ?_
        have hb3 : b < s1.heap.objs.size := Heap.lt_size e
        refine hk b (List.mem_range.mpr ?_) (fun z => absurd (hwr _ z) (Nat.not_le_of_lt hb3)) o (hhref _ _ (keep3 b o hb e))
        exact Nat.lt_of_lt_of_le (Nat.lt_of_lt_of_le hb3 z12) hsz
    · intro g h5 tk5 gs hgb hag hsz5 hk5 W5 hat
      simp only [GxR.passing_true, List.length_range] at W5
      refine hQ bs H1 g _ q1 ⟨_, _, _, _, _, W5.in4_1, hat, ?_, fun s' hm => ?_⟩
      · intro j y sj Qj Ej hy hQj
        obtain ⟨i, hij, b, hb, rfl⟩ := hy
        obtain ⟨hj, ej⟩ := List.getElem?_eq_some_iff.mp hij
        rw [List.getElem_range] at ej
        subst ej
        have hQ2 : Qj (bs.getD j false) sj := hQj
        rw [List.getD_eq_getElem?_getD, hb] at hQ2
        exact wpAny_truthy_bool hQ2
      · obtain ⟨more, em⟩ := hmore
        have nwr : ∀ b u, s1.heap.get? b = some u → b ∉ h3.objs.size :: wr := fun b u e hb => by
          have hl := Heap.lt_size e
          rcases List.mem_cons.mp hb with z | z
          · rw [z] at hl
            have h9 : (h3.objs.size : Nat) < s1.heap.objs.size := hl
            omega
          · exact absurd (hwr _ z) (Nat.not_le_of_lt hl)
        have J := GxR.inv_tab (more := more) (h' := s'.heap) (g' := s'.gens) (d' := s'.drawn) (t' := s'.toks) I1 hP (fun b u hb e => hm.heap b u (nwr b u e) (hk5 b u (keep3 b u hb e)))
          (by rw [← em]; exact hm.heap P _ (nwr P _ hPs) (hk5 P _ hP3)) (AllBare.movedS (I1.bare.push hgb) hm)
        rw [GxR.sh_eta s1 s' hm.os] at J
        refine ⟨upd H1 P (.tbl (ps ++ more)), ⟨⟨ps ++ more, upd_same, by rw [← em]; exact ht3⟩, fun b hb => upd_ne hb⟩, J⟩
  refine ⟨lim2, ?_⟩
  cases hf : codeAmong gpos ps.toList with
  | none =>
    refine wpAny_genexprCodeX hcode (cd.code hP2 ht) (cd.tab hP2) hf fun c' h' tk hx hge hlt hco' _ htab' _ => ?_
    obtain ⟨o1, vs, f1, tf, fl, tg, inF, tx, tt, op, _, _, _, _, _, _, _, _, _, htr, _⟩ := hco'
    exact cont _ h' tk _ hx (Nat.le_trans hge (Nat.le_of_lt hlt)) htab'.2 ⟨_, rfl⟩ htr
  | some cv =>
    refine wpAny_genexprCode_hit hcode (cd.code hP2 ht) hf ?_
    exact cont cv h2 t2 ps (Heap.ExtBut.refl _ _) (Nat.le_refl _) hP2 ⟨#[], by simp⟩ ht
theorem all_getD (bs : List Bool) : (List.range bs.length).all (fun j => bs.getD j false) = bs.all id := by
  rw [Bool.eq_iff_iff, List.all_eq_true, List.all_eq_true]
  constructor
  · intro h b hb
    obtain ⟨j, hj, e⟩ := List.getElem_of_mem hb
    have := h j (List.mem_range.mpr hj)
    rw [List.getD_eq_getElem?_getD, List.getElem?_eq_getElem hj, e] at this
    exact this
  · intro h j hj
    have hj' := List.mem_range.mp hj
    rw [List.getD_eq_getElem?_getD, List.getElem?_eq_getElem hj']
    exact h _ (List.getElem_mem hj')
theorem any_getD (bs : List Bool) : (List.range bs.length).any (fun j => bs.getD j false) = bs.any id := by
  rw [Bool.eq_iff_iff, List.any_eq_true, List.any_eq_true]
  constructor
  · intro ⟨j, hj, h⟩
    have hj' := List.mem_range.mp hj
    rw [List.getD_eq_getElem?_getD, List.getElem?_eq_getElem hj'] at h
    exact ⟨_, List.getElem_mem hj', h⟩
  · intro ⟨b, hb, h⟩
    obtain ⟨j, hj, e⟩ := List.getElem_of_mem hb
    refine ⟨j, List.mem_range.mpr hj, ?_⟩
    rw [List.getD_eq_getElem?_getD, List.getElem?_eq_getElem hj, e]
    exact h
/-- what all(..), any(..) ask -/
def tGen (X : Cx) (P : Addr) (scope : Scope) (x : Str) (elt iter : Expr) (tot : List Bool → Bool) : TE := fun σ H Q => ∀ pins s, Inv X pins σ H s →
  wpAny (model X.prog X.w) X.A (eval iter X.env) (fun xv s1 => wpAny (model X.prog X.w) X.A (pyIter xv) (SrcQ X pins σ P scope x elt fun bs H1 => ∀ H2, GxR.Tabbed P H1 H2 → Q (.bl (tot bs)) H2) X.xe s1) X.xe s
theorem pe_allG {c P : Addr} {elt iter : Expr} {x : Str} {px p pos gpos : Pos} {scope : Scope} {k : Nat}
    (hr : Room k X.A) (hm : X.mg "all" = none) (TB : GxR.TabB X.base X.mg c P) (hcode : X.env.code = .ref c) (S : X.Ok → GxR.GenS X.env scope x)
    (hs : ∀ v, genFold iter X.env v = pure v) (hg : Gl X "all" := by rfl) (hb : bootBuiltins "all" = some (.builtin "all") := by first | assumption | decide +kernel)
    (he : starEach [.GeneratorExp elt [⟨.Name x px, iter, [], 0⟩] scope gpos] X.env = (false, eval (.GeneratorExp elt [⟨.Name x px, iter, [], 0⟩] scope gpos) X.env) :: starEach [] X.env := by rfl) :
    PE X (.Call (.Name "all" p) [.GeneratorExp elt [⟨.Name x px, iter, [], 0⟩] scope gpos] [] pos) (tGen X P scope x elt iter fun bs => bs.all id) := by
  refine ⟨fun pins s σ H Q I h => ?_⟩
  refine wpAny_Call_Name_kw (ld_blt I hg hm hb ?_)
  refine PyProof.Rows.callWith_builtin1 ?_ he (by rfl)
  rw [he]
  show wpAny _ _ (spliced ((false, eval (.GeneratorExp elt [⟨.Name x px, iter, [], 0⟩] scope gpos) X.env) :: backTo pos (starEach [] X.env))) _ _ s
  refine Calls.spliced_cons (gen_core (R := fun bs H1 => ∀ H2, GxR.Tabbed P H1 H2 → Q (.bl (bs.all id)) H2) hr TB hcode (S I.ok) hs (h pins s I) fun bs H1 g s5 hR hG => ?_)
  obtain ⟨fp, wr, G, F, St, W, hst, htr, hI⟩ := hG
  refine Calls.spliced_nil ?_
  refine call_all_walkS (W.self 0 _ _ _ hst ⟨g, fp, wr, G, _, F, St, _, rfl, W, hst, htr, fun s' hmv => ?_⟩)
  obtain ⟨H2, hT, J⟩ := hI s' hmv
  refine ⟨.bl _, H2, J, rfl, ?_⟩
  rw [all_getD bs]
  exact hR H2 hT
theorem pe_anyG {c P : Addr} {elt iter : Expr} {x : Str} {px p pos gpos : Pos} {scope : Scope} {k : Nat}
    (hr : Room k X.A) (hm : X.mg "any" = none) (TB : GxR.TabB X.base X.mg c P) (hcode : X.env.code = .ref c) (S : X.Ok → GxR.GenS X.env scope x)
    (hs : ∀ v, genFold iter X.env v = pure v) (hg : Gl X "any" := by rfl)
    (he : starEach [.GeneratorExp elt [⟨.Name x px, iter, [], 0⟩] scope gpos] X.env = (false, eval (.GeneratorExp elt [⟨.Name x px, iter, [], 0⟩] scope gpos) X.env) :: starEach [] X.env := by rfl) :
    PE X (.Call (.Name "any" p) [.GeneratorExp elt [⟨.Name x px, iter, [], 0⟩] scope gpos] [] pos) (tGen X P scope x elt iter fun bs => bs.any id) := by
  refine ⟨fun pins s σ H Q I h => ?_⟩
  refine wpAny_Call_Name_kw (ld_blt I hg hm boot_any ?_)
  refine PyProof.Rows.callWith_builtin1 ?_ he (by rfl)
  rw [he]
  show wpAny _ _ (spliced ((false, eval (.GeneratorExp elt [⟨.Name x px, iter, [], 0⟩] scope gpos) X.env) :: backTo pos (starEach [] X.env))) _ _ s
  refine Calls.spliced_cons (gen_core (R := fun bs H1 => ∀ H2, GxR.Tabbed P H1 H2 → Q (.bl (bs.any id)) H2) hr TB hcode (S I.ok) hs (h pins s I) fun bs H1 g s5 hR hG => ?_)
  obtain ⟨fp, wr, G, F, St, W, hst, htr, hI⟩ := hG
  refine Calls.spliced_nil ?_
  refine call_any_walkS (W.self 0 _ _ _ hst ⟨g, fp, wr, G, _, F, St, _, rfl, W, hst, htr, fun s' hmv => ?_⟩)
  obtain ⟨H2, hT, J⟩ := hI s' hmv
  refine ⟨.bl _, H2, J, rfl, ?_⟩
  rw [any_getD bs]
  exact hR H2 hT
end
end FL
end
section
/-! FL: the law's end with code tables. -/
namespace FL
open PySem PySem.Spec PyProof.Rows L2
/-- no empty code table is held by K -/
def noTab (K : PySem.W.Frag) : Bool := K.all fun p => match p.2.cls, p.2.data with
  | .none, .fields vs => !vs.isEmpty
  | _, _ => true
theorem noTab_lk {P : Addr} {o : Obj} : ∀ {K : PySem.W.Frag}, noTab K = true → K.lookup P = some o → o.cls = .none → o.data = .fields #[] → False
  | [], _, h, _, _ => by cases h
  | (b, u) :: r, hn, h, hc, hd => by
    unfold noTab at hn
    rw [List.all_cons, Bool.and_eq_true] at hn
    rw [List.lookup_cons] at h
    cases e : P == b with
    | true =>
      rw [e] at h
      have h : u = o := Option.some.inj h
      subst h
      have h1 := hn.1
      simp only [hc, hd] at h1
      exact absurd h1 (by decide)
    | false =>
      rw [e] at h
      exact noTab_lk (K := r) hn.2 h hc hd
/-- each of the names is a def of the program, or it is no name there -/
def gOk (q : Program) (K : PySem.W.Frag) : Bool := gnames.all fun x => (recsOf q).any (fun e => e.name == x) || match PySem.W.nsIn K mainGlobals x with
  | some none => true
  | _ => false
/-- a def's code object and its table -/
def TabAt (K : PySem.W.Frag) (base : Heap) (mg : Str → Option Value) (fd : FuncData) : Prop := ∃ c P, fd.code = .ref c ∧ GxR.TabB base mg c P ∧ TblK K P
def TabsG (K : PySem.W.Frag) (base : Heap) (mg : Str → Option Value) : Prop := ∀ (x : Str) (f : Addr) (oc : Value) (od : Option Addr) (fd : FuncData) (osl : Array (Option Value)), x ∈ gnames →
  PySem.W.nsIn K mainGlobals x = some (some (.ref f)) → K.lookup f = some ⟨oc, od, .func fd, osl⟩ → PySem.W.codeIn K fd.code x = true → TabAt K base mg fd
theorem codeIn_look {K : PySem.W.Frag} {cd : Value} {q : Str} (h : PySem.W.codeIn K cd q = true) : ∃ c e dd vs sl, cd = .ref c ∧ K.lookup c = some ⟨e, dd, .fields vs, sl⟩ := by
  unfold PySem.W.codeIn at h
  split at h
  · split at h
    · rename_i c _ a b vs d ho
      exact ⟨c, a, b, vs, d, rfl, ho⟩
    · cases h
  · cases h
theorem walk_gen {l : PySem.W.OpenLaw} {n k : Nat} {q : Program} {loose : List Str} {XP : (Str → Option Value) → Heap → Prop} {YP : World → Heap → Prop} {d : DefRec} {K : Params → PySem.W.Frag} {x : Str}
    (hn : l.most = some n) (hn2 : n ≤ sizeLine) (hn3 : n ≤ 63) (hdf : d.params.defaults = []) (hr : Room k callerA) (hY : ∀ (w : World) (h : Heap), YP w h → (K w.params).In h) (hnt : ∀ w : World, noTab (K w.params) = true) (hgo : ∀ w : World, gOk q (K w.params) = true)
    (F : ∀ (w : World) (mg : Str → Option Value) (fa : Addr) (h : Heap), (K w.params).In h → h.Ns mainGlobals mg → mg d.name = some (.ref fa) →
      ∃ fd : FuncData, (∀ (s : Shared) (v : Value), BindsTo s fd ⟨[v], []⟩ [(x, v)]) ∧ ∀ base : Heap, (K w.params).In base → base.Ns mainGlobals mg → TabsG (K w.params) base mg → FnOk l.prog w (K w.params) mg base CX0 k fa fd [x] (spLaw (K w.params))) :
    PySem.W.WalkO q loose XP YP l.row.toRowW d [] (fun f vs => PySem.call f vs) := by
  refine Att.attach_callB hn hdf fun w s₀ s₁ mg mb fa o pm cd doc a vs ns G Y ho hd hcd hmg hobj hints hlen hbits hg => ?_
  have KX := hY w _ Y
  obtain ⟨fd, hb, hF⟩ := F w mg fa _ KX G.T.g hmg
  -- the tables
  have tabs : ∀ gs : List Str, ∃ cs : List (Addr × Addr), (∀ p ∈ cs, s₁.heap.get? p.2 = some { cls := .none, data := .fields #[] } ∧ PySem.W.CodeHd s₁.heap p.1 p.2) ∧
      ∀ x ∈ gs, (recsOf q).any (fun e => e.name == x) = true → ∃ p ∈ cs, ∃ (b : Addr) (u : Obj) (fe : FuncData), mg x = some (.ref b) ∧ s₁.heap.get? b = some u ∧ u.data = .func fe ∧ fe.code = .ref p.1 ∧ s₁.heap.TableAt p.1 p.2 #[] := by
    intro gs
    induction gs with
    | nil => exact ⟨[], (fun p hp => by cases hp), (fun x hx => by cases hx)⟩
    | cons y gs ih =>
      obtain ⟨cs, h1, h2⟩ := ih
      cases hy : (recsOf q).any (fun e => e.name == y) with
      | false =>
        refine ⟨cs, h1, fun x hx hr => ?_⟩
        rcases List.mem_cons.mp hx with rfl | hx
        · rw [hy] at hr; cases hr
        · exact h2 x hx hr
      | true =>
        obtain ⟨dL, hm, hn1⟩ := List.any_eq_true.mp hy
        have hn2 : dL.name = y := beq_iff_eq.mp hn1
        obtain ⟨a', o', fd', c', P', g1, g2, g3, g4, g5, g6⟩ := G.T.tab dL hm
        rw [hn2] at g1
        refine ⟨(c', P') :: cs, fun p hp => ?_, fun x hx hr => ?_⟩
        · rcases List.mem_cons.mp hp with rfl | hp
          · exact ⟨g6.2, PySem.W.CodeHd.of g5 g6⟩
          · exact h1 p hp
        · rcases List.mem_cons.mp hx with rfl | hx
          · exact ⟨(c', P'), List.mem_cons_self, a', o', fd', g1, g2, g3, g4, g6⟩
          · obtain ⟨p, hp, r⟩ := h2 x hx hr
            exact ⟨p, List.mem_cons_of_mem _ hp, r⟩
  obtain ⟨cs, h1, h2⟩ := tabs gnames
  have at_ : ∀ (x : Str) (f : Addr) (oc : Value) (od : Option Addr) (fe : FuncData) (osl : Array (Option Value)), x ∈ gnames → PySem.W.nsIn (K w.params) mainGlobals x = some (some (.ref f)) → (K w.params).lookup f = some ⟨oc, od, .func fe, osl⟩ →
      ∃ p ∈ cs, fe.code = .ref p.1 ∧ s₁.heap.TableAt p.1 p.2 #[] := fun x f oc od fe osl hx hns hl => by
    have hk : ((recsOf q).any (fun e => e.name == x) || match PySem.W.nsIn (K w.params) mainGlobals x with
      | some none => true
      | _ => false) = true := List.all_eq_true.mp (hgo w) x hx
    rw [hns, Bool.or_false] at hk
    obtain ⟨p, hp, b, u, fe', e1, e2, e3, e4, e5⟩ := h2 x hx hk
    have e6 := PySem.W.mg_of KX G.T.g hns
    rw [e1] at e6
    cases e6
    have e7 := KX _ _ hl
    rw [e2] at e7
    cases e7
    cases e3
    exact ⟨p, hp, e4, e5⟩
  have tb : ∀ P, TblK (K w.params) P → ∃ p ∈ cs, p.2 = P := fun P ⟨x, f, c, oc, od, fe, osl, e, dd, vs, sl, hx, hns, hl, hc, hlc, hv⟩ => by
    obtain ⟨p, hp, e4, ⟨o1, vs1, e5, e6, e7, e8⟩, e9⟩ := at_ x f oc od fe osl hx hns hl
    rw [hc] at e4
    cases e4
    have g := KX _ _ hlc
    rw [e5] at g
    cases g
    cases e7
    rw [hv] at e8
    cases e8
    exact ⟨p, hp, rfl⟩
  refine LamX.law_callTs (cs := cs) (fd := fd) (sp := spLaw (K w.params)) KX G.T.g G.T.b G.T.builtins G.T.nolimit hg (fun p hp => (h1 p hp).1) (fun p hp => ?_) (fun p hp => (h1 p hp).2) G.T.bmain hobj hints (Nat.le_trans hlen hn2) hr (fun base hKb hGb hTb => hF base hKb hGb ?_) hb (fun H hH hS => ⟨a, ns, rfl, hS, Nat.le_trans hlen hn3, fun P hP => ?_, fun _ => rfl⟩) fun H e s' h => h
  · cases e : (K w.params).lookup p.2 with
    | none => rfl
    | some o =>
      have := KX _ _ e
      rw [(h1 p hp).1] at this
      cases this
      exact (noTab_lk (hnt w) e rfl rfl).elim
  · intro x f oc od fe osl hx hns hl hc
    obtain ⟨p, hp, e4, ⟨o1, vs1, e5, e6, e7, e8⟩, e9⟩ := at_ x f oc od fe osl hx hns hl
    have t := hTb p hp
    refine ⟨p.1, p.2, e4, ⟨t.code, t.bm, t.gP⟩, ?_⟩
    obtain ⟨c, e, dd, vs, sl, g1, g2⟩ := codeIn_look hc
    rw [e4] at g1
    cases g1
    have g := KX _ _ g2
    rw [e5] at g
    cases g
    cases e7
    exact ⟨x, f, p.1, oc, od, fe, osl, _, _, _, _, hx, hns, hl, e4, g2, e8⟩
  · obtain ⟨p, hp, rfl⟩ := tb P hP
    exact ⟨#[], hH p hp, by simp [TriplesOk]⟩
end FL
end
section
/-! FL: the elements of generator expressions, all(..), any(..) over lists, tuples, ranges. -/
namespace FL
open PySem PySem.Spec PyProof.Rows L2

abbrev QF := Env → List D → Option D
structure QFr (X : Cx) (P : Addr) (scope : Scope) (own : List Str) (vs : List V) (s1 : Shared) (cenv : PySem.Env) (s₂ : Shared) (m₂ : Str → Option Value) : Prop where
  sc : cenv.scope = scope
  cl : cenv.cells = cloFrom X.env.cells scope.names []
  ns : s₂.heap.Ns cenv.locals m₂
  own : ∀ (i : Nat) (x : Str) (v : V), own[i]? = some x → vs[i]? = some v → ∃ u, m₂ x = some u ∧ RelV v u
  kp : ∀ b o, b ≠ P → s1.heap.get? b = some o → s₂.heap.get? b = some o
theorem QFr.step {X : Cx} {P : Addr} {scope : Scope} {own : List Str} {vs : List V} {s1 : Shared} {cenv : PySem.Env} {s₂ s₃ : Shared} {m₂ : Str → Option Value} (h : QFr X P scope own vs s1 cenv s₂ m₂) (k : Keeps s₂ s₃) : QFr X P scope own vs s1 cenv s₃ m₂ := by
  obtain ⟨h', tk, rfl, kk⟩ := k
  exact ⟨h.sc, h.cl, h.ns.keeps kk, h.own, fun b o n e => kk _ _ (h.kp b o n e)⟩
/-- the element's own promise -/
def QP (X : Cx) (P : Addr) (scope : Scope) (own : List Str) (e : Expr) (g : QF) : Prop :=
  ∀ (pins : List (Addr × Obj)) (σ : L2.St) (H1 : Hp) (s1 : Shared) (c : Ctx) (F : Hp) (ρ : Env) (ω : Ora) (vs : List V) (ds : List D) (d : D), Inv X pins σ H1 s1 → W X.K c F H1 σ ρ ω → GxR.TabG H1 P → Reps X.K c.q F vs ds → g ρ ds = some d →
    ∃ v, Rep X.K c.q F v d ∧ ∀ (cenv : PySem.Env) (A' : Around) (E' : Value → Shared → Prop) (s₂ : Shared) (m₂ : Str → Option Value), A'.handled = none → QFr X P scope own vs s1 cenv s₂ m₂ →
      wpAny (model X.prog X.w) A' (eval e cenv) (fun y s₃ => RelV v y ∧ Keeps s₂ s₃) E' s₂
section
variable {X : Cx} {P : Addr} {scope : Scope} {own : List Str} {a b : Expr} {f g : QF} {pos : Pos}
def qo (i : Nat) : QF := fun _ ds => ds[i]?
def qv (j : Nat) : QF := fun ρ _ => match nth ρ j with
  | .d x => some x
  | _ => none
def qc (d : D) : QF := fun _ _ => some d
def q2 (o : D → D → Option D) (f g : QF) : QF := fun ρ ds => (f ρ ds).bind fun x => (g ρ ds).bind fun y => o x y
theorem q_own (i : Nat) {x : Str} (hx : own[i]? = some x := by rfl) (hl : scope.names.lookup x = some .local := by rfl) (hk : scope.kind = .function := by rfl) (hd : (x == ("__debug__" : Str)) = false := by decide) : QP X P scope own (.Name x pos) (qo i) := by
  intro pins σ H1 s1 c F ρ ω vs ds d I w t r e
  obtain ⟨v, h1, h2⟩ := r.get e
  refine ⟨v, h2, fun cenv A' E' s₂ m₂ hA q => ?_⟩
  obtain ⟨u, h3, h4⟩ := q.own i x v hx h1
  exact wpAny_Name (wpAny_loadName_local (by rw [q.sc]; exact hk) (show cenv.scope.names.lookup x = some .local by rw [q.sc]; exact hl) q.ns h3 ⟨h4, keeps_refl _⟩) hd
theorem tab_nc {H1 : Hp} {s1 : Shared} {pins : List (Addr × Obj)} {σ : L2.St} (I : Inv X pins σ H1 s1) (t : GxR.TabG H1 P) {b : Addr} {o : Obj} (e : s1.heap.get? b = some o) (h : ∀ vs, o.data ≠ .fields vs) : b ≠ P := fun z => by
  obtain ⟨ps, hP, _⟩ := t
  have := I.hok P _ hP
  subst z
  have h3 : s1.heap.get? b = some { cls := .none, data := .fields ps } := this
  rw [e] at h3
  cases h3
  exact h _ rfl
theorem q_cap (j : Nat) {x : Str} (hN : X.N[j]? = some x := by rfl) (hc : X.env.scope.names.lookup x = some .cell := by rfl) (hl : scope.names.lookup x = some .free := by rfl) (hk : scope.kind = .function := by rfl)
    {xs : List Str} (hgo : genC X.env.scope scope xs = true) (hd : (x == ("__debug__" : Str)) = false := by decide) (hcd : (x == ("__classdict__" : Str)) = false := by decide) : QP X P scope own (.Name x pos) (qv j) := by
  intro pins σ H1 s1 c F ρ ω vs ds d I w t r e
  unfold qv at e
  cases hy : nth ρ j with
  | d y =>
    rw [hy] at e
    cases e
    obtain ⟨v, h1, h2⟩ := w.fz j _ hy
    refine ⟨v, h2, fun cenv A' E' s₂ m₂ hA q => ?_⟩
    obtain ⟨m, hn, hlk⟩ := I.loc
    obtain ⟨u, ru, l⟩ := hlk j x v hN h1 (.inr (.inl hc))
    rcases l with ⟨hk2, hm⟩ | ⟨hk2, cc, hcc, hcell⟩
    · have : X.env.kindOf x = some .cell := hc
      rw [this] at hk2
      cases hk2
    · have h5 : cenv.cells.lookup x = some cc := by
        rw [q.cl]
        exact NdefX.clo_has ((genOk_by hgo).fr I.ok) (PySem.mem_of_lookup hl) hcc
      have h6 : s₂.heap.IsCell cc (some u) := by
        obtain ⟨o, e1, e2⟩ := hcell
        exact ⟨o, q.kp _ _ (tab_nc I t e1 fun vs z => by rw [e2] at z; cases z) e1, e2⟩
      exact wpAny_Name (wpAny_loadName_free (by rw [q.sc]; exact hk) (show cenv.scope.names.lookup x = some .free by rw [q.sc]; exact hl) h5 h6 ⟨ru, keeps_refl _⟩ hcd) hd
  | o y => rw [hy] at e; cases e
  | t n y => rw [hy] at e; cases e
  | un => rw [hy] at e; cases e
theorem q_int {i : Int} {k : Nat} : QP X P scope own (.Constant (.int i) k pos) (qc (.int i)) := by
  intro pins σ H1 s1 c F ρ ω vs ds d I w t r e
  cases e
  exact ⟨.int i, .int i, fun cenv A' E' s₂ m₂ hA q => wpAny_Constant_int ⟨⟨_, rfl⟩, keeps_tok _ _⟩⟩
theorem q_two {d : D} {o : D → D → Option D} {ρ : Env} {ds : List D} (e : q2 o f g ρ ds = some d) : ∃ x y, f ρ ds = some x ∧ g ρ ds = some y ∧ o x y = some d := by
  unfold q2 at e
  cases h1 : f ρ ds with
  | none => rw [h1] at e; cases e
  | some x =>
    cases h2 : g ρ ds with
    | none => rw [h1, h2] at e; cases e
    | some y => rw [h1, h2] at e; exact ⟨x, y, rfl, rfl, e⟩
def dII (o : Int → Int → D) : D → D → Option D
  | .int i, .int j => some (o i j)
  | _, _ => none
theorem dII_some {o : Int → Int → D} {x y d : D} (h : dII o x y = some d) : ∃ i j, x = .int i ∧ y = .int j ∧ d = o i j := by
  unfold dII at h
  split at h
  · cases h; exact ⟨_, _, rfl, rfl, rfl⟩
  · cases h
abbrev qAdd : D → D → Option D := dII fun i j => .int (i + j)
abbrev qSub : D → D → Option D := dII fun i j => .int (i - j)
abbrev qCmp (o : Int → Int → Bool) : D → D → Option D := dII fun i j => .bl (o i j)
theorem q_arith {op : Operator} {o : Int → Int → Int} (ho : ∀ (A : Around) (E : Value → Shared → Prop) (s : Shared) (i j : Int) (t u : Tok) (Q : Value → Shared → Prop), Q (.int (o i j) s.toks) { s with toks := s.toks + 1 } → wpAny (model X.prog X.w) A (binaryOp op (.int i t) (.int j u)) Q E s)
    (ha : QP X P scope own a f) (hb : QP X P scope own b g) : QP X P scope own (.BinOp a op b pos) (q2 (dII fun i j => .int (o i j)) f g) := by
  intro pins σ H1 s1 c F ρ ω vs ds d I w t r e
  obtain ⟨x, y, e1, e2, e3⟩ := q_two e
  obtain ⟨i, j, rfl, rfl, rfl⟩ := dII_some e3
  obtain ⟨v1, r1, k1⟩ := ha pins σ H1 s1 c F ρ ω vs ds _ I w t r e1
  obtain ⟨v2, r2, k2⟩ := hb pins σ H1 s1 c F ρ ω vs ds _ I w t r e2
  cases r1
  cases r2
  refine ⟨_, .int _, fun cenv A' E' s₂ m₂ hA q => wpAny_BinOp (wpAny_mono (k1 cenv A' E' s₂ m₂ hA q) (fun y1 s3 ⟨h1, kk1⟩ => wpAny_mono (k2 cenv A' E' s3 m₂ hA (q.step kk1)) (fun y2 s4 ⟨h2, kk2⟩ => ?_) fun _ _ e => e) fun _ _ e => e)⟩
  obtain ⟨t1, rfl⟩ := h1
  obtain ⟨t2, rfl⟩ := h2
  exact ho _ _ _ _ _ _ _ _ ⟨⟨_, rfl⟩, keeps_trans (keeps_trans kk1 kk2) (keeps_tok _ _)⟩
theorem q_add (ha : QP X P scope own a f) (hb : QP X P scope own b g) : QP X P scope own (.BinOp a .Add b pos) (q2 qAdd f g) := q_arith (fun _ _ _ _ _ _ _ _ q => PySem.P.add_int q) ha hb
theorem q_sub (ha : QP X P scope own a f) (hb : QP X P scope own b g) : QP X P scope own (.BinOp a .Sub b pos) (q2 qSub f g) := q_arith (fun _ _ _ _ _ _ _ _ q => PySem.P.sub_int q) ha hb
theorem q_cmp {op : CmpOp} {o : Int → Int → Bool} (ho : ∀ (A : Around) (E : Value → Shared → Prop) (s : Shared) (i j : Int) (t u : Tok) (Q : Value → Shared → Prop), Q (.bool (o i j)) s → wpAny (model X.prog X.w) A (compareOp op (.int i t) (.int j u)) Q E s)
    (ha : QP X P scope own a f) (hb : QP X P scope own b g) (hm : behindInMarks op b = false := by first | exact nomark _ | rfl) : QP X P scope own (.Compare a [op] [b] pos) (q2 (dII fun i j => .bl (o i j)) f g) := by
  intro pins σ H1 s1 c F ρ ω vs ds d I w t r e
  obtain ⟨x, y, e1, e2, e3⟩ := q_two e
  obtain ⟨i, j, rfl, rfl, rfl⟩ := dII_some e3
  obtain ⟨v1, r1, k1⟩ := ha pins σ H1 s1 c F ρ ω vs ds _ I w t r e1
  obtain ⟨v2, r2, k2⟩ := hb pins σ H1 s1 c F ρ ω vs ds _ I w t r e2
  cases r1
  cases r2
  refine ⟨_, .bl _, fun cenv A' E' s₂ m₂ hA q => wpAny_Compare1 (wpAny_mono (k1 cenv A' E' s₂ m₂ hA q) (fun y1 s3 ⟨h1, kk1⟩ => wpAny_mono (k2 cenv A' E' s3 m₂ hA (q.step kk1)) (fun y2 s4 ⟨h2, kk2⟩ => ?_) fun _ _ e => e) fun _ _ e => e) hm⟩
  obtain ⟨t1, rfl⟩ := h1
  obtain ⟨t2, rfl⟩ := h2
  exact ho _ _ _ _ _ _ _ _ ⟨rfl, keeps_trans kk1 kk2⟩
theorem q_le (ha : QP X P scope own a f) (hb : QP X P scope own b g) : QP X P scope own (.Compare a [.LtE] [b] pos) (q2 (qCmp fun i j => decide (i ≤ j)) f g) := q_cmp (fun _ _ _ _ _ _ _ _ q => PySem.P.le_int q) ha hb
theorem q_ge (ha : QP X P scope own a f) (hb : QP X P scope own b g) : QP X P scope own (.Compare a [.GtE] [b] pos) (q2 (qCmp fun i j => decide (j ≤ i)) f g) := q_cmp (fun _ _ _ _ _ _ _ _ q => PySem.P.ge_int q) ha hb
theorem q_lt (ha : QP X P scope own a f) (hb : QP X P scope own b g) : QP X P scope own (.Compare a [.Lt] [b] pos) (q2 (qCmp fun i j => decide (i < j)) f g) := q_cmp (fun _ _ _ _ _ _ _ _ q => PySem.P.lt_int q) ha hb
theorem q_gt (ha : QP X P scope own a f) (hb : QP X P scope own b g) : QP X P scope own (.Compare a [.Gt] [b] pos) (q2 (qCmp fun i j => decide (j < i)) f g) := q_cmp (fun _ _ _ _ _ _ _ _ q => PySem.P.gt_int q) ha hb
theorem q_eq (ha : QP X P scope own a f) (hb : QP X P scope own b g) : QP X P scope own (.Compare a [.Eq] [b] pos) (q2 (qCmp fun i j => i == j) f g) := q_cmp (fun _ _ _ _ _ _ _ _ q => PySem.P.eq_int q) ha hb
theorem q_ne (ha : QP X P scope own a f) (hb : QP X P scope own b g) : QP X P scope own (.Compare a [.NotEq] [b] pos) (q2 (qCmp fun i j => i != j) f g) := q_cmp (fun _ _ _ _ _ _ _ _ q => PySem.P.ne_int q) ha hb
/-- t[i], t in the frozen part -/
theorem rep_seq {K : PySem.W.Frag} {q : Qa} {F H : Hp} {v : V} {d : D} {ds : List D} (r : Rep K q F v d) (s : Same F H) (e : seqD d = some ds) : ∃ p vs, v = .ref p ∧ (SqL K H p vs ∨ SqT K H p vs) ∧ Reps K q F vs ds := Vw.seq (.inl r) s e
theorem isl_kp {s1 s₂ : Shared} {pins : List (Addr × Obj)} {σ : L2.St} {H1 : Hp} (I : Inv X pins σ H1 s1) (t : GxR.TabG H1 P) (kp : ∀ b o, b ≠ P → s1.heap.get? b = some o → s₂.heap.get? b = some o) {p : Addr} {its : Array Value} (h : s1.heap.IsList p its) : s₂.heap.IsList p its := by
  obtain ⟨o, e1, e2, e3, e4⟩ := h
  exact ⟨o, kp _ _ (tab_nc I t e1 fun vs z => by rw [e4] at z; cases z) e1, e2, e3, e4⟩
theorem ist_kp {s1 s₂ : Shared} {pins : List (Addr × Obj)} {σ : L2.St} {H1 : Hp} (I : Inv X pins σ H1 s1) (t : GxR.TabG H1 P) (kp : ∀ b o, b ≠ P → s1.heap.get? b = some o → s₂.heap.get? b = some o) {p : Addr} {its : Array Value} (h : IsTup s1.heap p its) : IsTup s₂.heap p its := by
  obtain ⟨o, e1, e2, n, e4⟩ := h
  exact ⟨o, kp _ _ (tab_nc I t e1 fun vs z => by rw [e4] at z; cases z) e1, e2, n, e4⟩
theorem q_ix (ha : QP X P scope own a f) (hb : QP X P scope own b g) (hs : PlainIx b) : QP X P scope own (.Subscript a b pos) (q2 dIx f g) := by
  intro pins σ H1 s1 c F ρ ω vs ds d I w t r e
  obtain ⟨x, y, e1, e2, e3⟩ := q_two e
  obtain ⟨v1, r1, k1⟩ := ha pins σ H1 s1 c F ρ ω vs ds _ I w t r e1
  obtain ⟨v2, r2, k2⟩ := hb pins σ H1 s1 c F ρ ω vs ds _ I w t r e2
  obtain ⟨xs, i, hx, rfl, h3⟩ : ∃ xs i, seqD x = some xs ∧ y = .int i ∧ atI xs i = some d := by
    cases x <;> cases y <;> simp only [dIx, reduceCtorEq] at e3
    · exact ⟨_, _, rfl, rfl, e3⟩
    · exact ⟨_, _, rfl, rfl, e3⟩
  cases r2
  obtain ⟨p, ws, rfl, hp, rs⟩ := rep_seq r1 w.post.le hx
  obtain ⟨v, h5, h6⟩ := atI_reps rs h3
  refine ⟨v, h6, fun cenv A' E' s₂ m₂ hA q => Subscript_ (wpAny_mono (k1 cenv A' E' s₂ m₂ hA q) (fun y1 s3 ⟨g1, kk1⟩ => wpAny_mono (k2 cenv A' E' s3 m₂ hA (q.step kk1)) (fun y2 s4 ⟨g2, kk2⟩ => ?_) fun _ _ e => e) fun _ _ e => e)⟩
  cases (show y1 = Value.ref p from g1)
  obtain ⟨t2, rfl⟩ := g2
  have q4 := (q.step kk1).step kk2
  obtain ⟨j, a1, a2, a3, a4, a5⟩ := atI_get h5
  have hn := line63
  rcases hp with hp | hp
  · obtain ⟨its, rv, pl, hz⟩ := I.list hp
    have il := isl_kp I t q4.kp pl.isList
    obtain ⟨u, ew, rw'⟩ := rv.get a2
    have hl := rv.length
    have fin : RelV v u ∧ Keeps s₂ s4 := ⟨rw', keeps_trans kk1 kk2⟩
    by_cases h0 : 0 ≤ i
    · have hj : i.toNat = j := by
        rw [seqIndex_of h0 a5] at a1
        exact Option.some.inj a1
      exact item_listR il h0 (by omega) (by rw [hj]; simpa using ew) fin (hs _ _)
    · have hj : (i + (its.toArray.size : Int)).toNat = j := by
        rw [seqIndex_neg (by omega) a4] at a1
        rw [List.size_toArray, ← hl]
        exact Option.some.inj a1
      exact subscriptTail_builtinR (x := u) il.typeIs slot_list_getitem.lookup
        (wpAny_getItem_list_neg (Q := fun r s' => r = u ∧ (RelV v r ∧ Keeps s₂ s')) il (by omega) (by rw [List.size_toArray] <;> omega) (by omega) (by rw [hj]; simpa using ew) ⟨rfl, fin⟩) (hs _ _)
  · obtain ⟨its, rv, pl, hz⟩ := I.tuple hp
    have il := ist_kp I t q4.kp pl
    obtain ⟨u, ew, rw'⟩ := rv.get a2
    have hl := rv.length
    have fin : RelV v u ∧ Keeps s₂ s4 := ⟨rw', keeps_trans kk1 kk2⟩
    exact subscriptTail_builtinR (x := u) il.typeIs slot_tuple_getitem.lookup
      (getItem_tuple (j := j) (Q := fun r s' => r = u ∧ (RelV v r ∧ Keeps s₂ s')) il (by omega) (by omega) (by rw [List.size_toArray, ← hl]; exact a1) (by simpa using ew) ⟨rfl, fin⟩) (hs _ _)
def qIn (x y : D) : Option D := match x, seqD y with
  | .int i, some ds => (intsOf ds).map fun ns => .bl (ns.any fun n => n == i)
  | _, _ => none
theorem q_in (ha : QP X P scope own a f) (hb : QP X P scope own b g) (hm : behindInMarks .In b = false := by first | exact nomark _ | rfl) : QP X P scope own (.Compare a [.In] [b] pos) (q2 qIn f g) := by
  intro pins σ H1 s1 c F ρ ω vs ds d I w t r e
  obtain ⟨x, y, e1, e2, e3⟩ := q_two e
  obtain ⟨v1, r1, k1⟩ := ha pins σ H1 s1 c F ρ ω vs ds _ I w t r e1
  obtain ⟨v2, r2, k2⟩ := hb pins σ H1 s1 c F ρ ω vs ds _ I w t r e2
  obtain ⟨i, ys, ns, rfl, hy, hn, rfl⟩ : ∃ i ys ns, x = .int i ∧ seqD y = some ys ∧ intsOf ys = some ns ∧ d = .bl (ns.any fun n => n == i) := by
    unfold qIn at e3
    split at e3
    · rename_i i ys hy
      rw [Option.map_eq_some_iff] at e3
      obtain ⟨ns, h1, rfl⟩ := e3
      exact ⟨i, ys, ns, rfl, hy, h1, rfl⟩
    · cases e3
  cases r1
  cases intsOf_eq hn
  obtain ⟨p, ws, rfl, hp, rs⟩ := rep_seq r2 w.post.le hy
  cases rs.ints
  refine ⟨_, .bl _, fun cenv A' E' s₂ m₂ hA q => wpAny_Compare1 (wpAny_mono (k1 cenv A' E' s₂ m₂ hA q) (fun y1 s3 ⟨g1, kk1⟩ => wpAny_mono (k2 cenv A' E' s3 m₂ hA (q.step kk1)) (fun y2 s4 ⟨g2, kk2⟩ => ?_) fun _ _ e => e) fun _ _ e => e) hm⟩
  cases (show y2 = Value.ref p from g2)
  have q4 := (q.step kk1).step kk2
  have kk := keeps_trans kk1 kk2
  rcases hp with hp | hp
  · obtain ⟨its, rv, pl, hz⟩ := I.list hp
    have il := isl_kp I t q4.kp pl.isList
    refine SeqAt.in_listAt (eqU (.int i)) il (fun w hw => mem_eqAt g1 rfl rv (all_flat ns) w (by simpa using hw)) ⟨?_, kk⟩
    rw [show its.toArray.any (eqU (.int i)) = its.any (eqU (.int i)) by simp, any_eqU rv (all_flat ns)]
    show Value.bool _ = Value.bool _
    rw [← inV_ints]; rfl
  · obtain ⟨its, rv, pl, hz⟩ := I.tuple hp
    have il := ist_kp I t q4.kp pl
    refine SeqAt.in_tupleAt (eqU (.int i)) il (fun w hw => mem_eqAt g1 rfl rv (all_flat ns) w (by simpa using hw)) ⟨?_, kk⟩
    rw [show its.toArray.any (eqU (.int i)) = its.any (eqU (.int i)) by simp, any_eqU rv (all_flat ns)]
    show Value.bool _ = Value.bool _
    rw [← inV_ints]; rfl
end

/-! ### all(..), any(..) -/
def bolD : D → Option Bool
  | .bl b => some b
  | _ => none
def gL (g : QF) (ρ : Env) : List D → Option (List Bool)
  | [] => some []
  | d :: ds => ((g ρ [d]).bind bolD).bind fun b => (gL g ρ ds).map (b :: ·)
def gE (tot : List Bool → Bool) (it : AF) (g : QF) : EF := fun ρ => bnd (it ρ) fun ds => opt ((gL g ρ ds).map fun bs => .bl (tot bs))
def allT (bs : List Bool) : Bool := bs.all id
def anyT (bs : List Bool) : Bool := bs.any id
def seqA (f : EF) : AF := fun ρ => bnd (f ρ) fun d => opt (seqD d)
theorem gL_len {g : QF} {ρ : Env} : ∀ {ds : List D} {bs : List Bool}, gL g ρ ds = some bs → bs.length = ds.length
  | [], bs, h => by cases h; rfl
  | d :: ds, bs, h => by
    unfold gL at h
    cases h1 : (g ρ [d]).bind bolD with
    | none => rw [h1] at h; cases h
    | some b =>
      rw [h1] at h
      have h : (gL g ρ ds).map (b :: ·) = some bs := h
      rw [Option.map_eq_some_iff] at h
      obtain ⟨r, h2, rfl⟩ := h
      rw [List.length_cons, List.length_cons, gL_len h2]
theorem gL_at {g : QF} {ρ : Env} : ∀ {ds : List D} {bs : List Bool} {i : Nat} {d : D}, gL g ρ ds = some bs → ds[i]? = some d → ∃ b, bs[i]? = some b ∧ g ρ [d] = some (.bl b)
  | [], bs, i, d, _, h => by simp at h
  | x :: ds, bs, i, d, h, hi => by
    unfold gL at h
    cases h1 : (g ρ [x]).bind bolD with
    | none => rw [h1] at h; cases h
    | some b =>
      rw [h1] at h
      have h : (gL g ρ ds).map (b :: ·) = some bs := h
      rw [Option.map_eq_some_iff] at h
      obtain ⟨r, h2, rfl⟩ := h
      cases i with
      | zero =>
        have hi : x = d := by simpa using hi
        subst hi
        refine ⟨b, rfl, ?_⟩
        cases h3 : g ρ [x] with
        | none => rw [h3] at h1; cases h1
        | some y =>
          rw [h3] at h1
          have h1 : bolD y = some b := h1
          cases y <;> simp [bolD] at h1
          subst h1
          rfl
      | succ i => exact gL_at (i := i) h2 (by simpa using hi)
theorem Post.tabbed {q : Qa} {F H F1 H1 H2 : Hp} {ω : Ora} {P : Addr} (p : Post q F H F1 H1 ω) (hT : q.T P) (t : GxR.Tabbed P H1 H2) : Post q F H F1 H2 ω where
  le0 := p.le0
  new := p.new
  le := fun a x e => by
    rw [t.2 a fun z => by rw [z, (p.ora.2 P hT).1] at e; cases e]
    exact p.le a x e
  kept := fun a x e qf => by
    rw [t.2 a fun z => by rw [z] at qf; exact qf.2 hT]
    exact p.kept a x e qf
  ora := ⟨fun r er => by
    obtain ⟨h1, h2, h3, h4, h5⟩ := p.ora.1 r er
    obtain ⟨_, ps, h6, _⟩ := p.ora.2 P hT
    exact ⟨h1, h2, h3, by rw [t.2 _ fun z => by rw [z, h6] at h4; cases h4]; exact h4, by rw [t.2 _ fun z => by rw [z, h6] at h5; cases h5]; exact h5⟩, fun a ha => by
    obtain ⟨h1, h2⟩ := p.ora.2 a ha
    by_cases z : a = P
    · subst z; exact ⟨h1, t.1⟩
    · obtain ⟨ps, h3, h4⟩ := h2
      exact ⟨h1, ps, by rw [t.2 a z]; exact h3, h4⟩⟩
section
variable {X : Cx} {P c : Addr} {scope : Scope} {x : Str} {elt iter : Expr} {f : EF} {g : QF} {px p pos gpos : Pos} {k : Nat} {tot : List Bool → Bool}
/-- the source: a list or tuple -/
theorem gen_seq (hT : TblK X.K P) (hi : PE X iter (tB X.K f)) (hq : QP X P scope [x] elt g) (σ : L2.St) (H : Hp) (Q : VK) (h : tE X.K (gE tot (seqA f) g) σ H Q) : tGen X P scope x elt iter tot σ H Q := by
  intro pins s I
  obtain ⟨c, F, ρ, ω, d, ω', w, e, kQ⟩ := h
  obtain ⟨ds, ω1, e1, e⟩ := bnd_some e
  obtain ⟨e2, rfl⟩ := opt_some e
  obtain ⟨y, ω2, e3, e4⟩ := bnd_some e1
  obtain ⟨e5, rfl⟩ := opt_some e4
  rw [Option.map_eq_some_iff] at e2
  obtain ⟨bs, hbs, rfl⟩ := e2
  refine thn (hi.run pins s σ H (fun v H1 => ∃ F1, Post c.q F H F1 H1 ω' ∧ Vw X.K c.q F1 H1 v y) I ⟨c, F, ρ, ω, y, ω', w, e3, fun F1 H1 v p1 r1 => ⟨F1, p1, r1⟩⟩) fun xv s1 ⟨v, H1, I1, r1, F1, p1, q1⟩ => ?_
  have w1 := w.ext p1
  have hTP := w.tb P hT
  have tg : GxR.TabG H1 P := (p1.ora.2 P hTP).2
  obtain ⟨p, vs, rfl, hp, rs⟩ := q1.seq p1.le e5
  cases (show xv = Value.ref p from r1)
  have hPs : ∃ ps, s1.heap.get? P = some { cls := .none, data := .fields ps } := let ⟨ps, hP, _⟩ := tg; ⟨ps, I1.hok P _ hP⟩
  obtain ⟨ps, hPs⟩ := hPs
  have hPlt : P < s1.heap.objs.size := Heap.lt_size hPs
  have hbl := gL_len hbs
  -- what is the same for both
  have elem : ∀ (its : List Value), Vals vs its → ∀ (i : Nat) (v : Value) (cenv : PySem.Env) (A' : Around) (E' : Value → Shared → Prop) (s₂ : Shared) (m₂ : Str → Option Value), A'.handled = none → its.toArray[i]? = some v → cenv.scope = scope → cenv.cells = cloFrom X.env.cells scope.names [] → s₂.heap.Ns cenv.locals m₂ → m₂ x = some v →
      (∀ b o, b ≠ P → s1.heap.get? b = some o → s₂.heap.get? b = some o) → wpAny (model X.prog X.w) A' (eval elt cenv) (fun y s₃ => (∃ b, bs[i]? = some b ∧ y = .bool b) ∧ Keeps s₂ s₃) E' s₂ := by
    intro its rv i v cenv A' E' s₂ m₂ hA hv hsc hcl hns hm hkp
    have hv2 : its[i]? = some v := by simpa using hv
    have hi2 : i < vs.length := by rw [rv.length]; exact (List.getElem?_eq_some_iff.mp hv2).1
    obtain ⟨u, hu, ru⟩ := rv.get (List.getElem?_eq_getElem hi2)
    rw [hv2] at hu
    cases hu
    obtain ⟨dx, hd1, hd2⟩ := rs.getV (List.getElem?_eq_getElem hi2)
    obtain ⟨b, hb1, hb2⟩ := gL_at hbs hd1
    obtain ⟨z, hz1, hz2⟩ := hq pins σ H1 s1 c F1 ρ ω' [vs[i]] [dx] _ I1 w1 tg (.cons hd2 .nil) hb2
    cases hz1
    refine wpAny_mono (hz2 cenv A' E' s₂ m₂ hA ⟨hsc, hcl, hns, fun j y v' hj hv' => ?_, hkp⟩) (fun y s3 r => ⟨⟨b, hb1, r.1⟩, r.2⟩) fun _ _ e => e
    cases j with
    | zero =>
      have h1 : x = y := by simpa using hj
      have h2 : vs[i] = v' := by simpa using hv'
      subst h1
      subst h2
      exact ⟨v, hm, ru⟩
    | succ j => simp at hj
  have fin : ∀ H2, GxR.Tabbed P H1 H2 → Q (.bl (tot bs)) H2 := fun H2 t => kQ F1 H2 _ (p1.tabbed hTP t) (.bl _)
  rcases hp with hp | hp
  · obtain ⟨its, rv, pl, hz⟩ := I1.list hp
    have hl := pl.isList
    have hlt : p < s1.heap.objs.size := let ⟨_, e, _⟩ := hl; Heap.lt_size e
    have hpP : p ≠ P := let ⟨o, e, _, _, d⟩ := hl; tab_nc I1 tg e fun vs z => by rw [d] at z; cases z
    have hne : p ≠ s1.heap.objs.size := Nat.ne_of_lt hlt
    have hsz : its.toArray.size = bs.length := by rw [List.size_toArray, hbl, ← rs.length, rv.length]
    refine wpAny_pyIter_list hl ⟨s1, H1, s1.heap.push { cls := .type "list_iterator", data := .fields #[.ref p, .int 0 0] }, s1.toks, s1.heap.objs.size, [s1.heap.objs.size, p], [s1.heap.objs.size], bs, (fun i v => its.toArray[i]? = some v), (fun i h => h.IsListIter s1.heap.objs.size p i ∧ h.IsList p its.toArray), rfl, rfl, I1, fun b o e => Heap.get?_push_of_some _ e, by rw [Heap.size_push]; omega, fun b hb => ?_, fun A' hA => by rw [← hsz]; exact Walks.list hA _ p hne _, ⟨⟨_, Heap.get?_push_size _ rfl, rfl, rfl⟩, ?_⟩, fun b hb => ?_, tg, fin, elem its rv⟩
    · rcases List.mem_cons.mp hb with z | z
      · rw [z]; exact Nat.le_refl _
      · cases z
    · obtain ⟨o, e, r⟩ := hl
      exact ⟨o, Heap.get?_push_of_some _ e, r⟩
    · rw [Heap.size_push]
      rcases List.mem_cons.mp hb with z | z
      · rw [z]; exact ⟨Nat.lt_succ_self _, Nat.ne_of_gt hPlt⟩
      · rcases List.mem_cons.mp z with z | z
        · rw [z]; exact ⟨Nat.lt_succ_of_lt hlt, hpP⟩
        · cases z
  · obtain ⟨its, rv, pl, hz⟩ := I1.tuple hp
    have hl : s1.heap.IsTuple p its.toArray := pl
    have hlt : p < s1.heap.objs.size := let ⟨_, e, _⟩ := hl; Heap.lt_size e
    have hpP : p ≠ P := let ⟨o, e, _, n, d⟩ := hl; tab_nc I1 tg e fun vs z => by rw [d] at z; cases z
    have hne : p ≠ s1.heap.objs.size := Nat.ne_of_lt hlt
    have hsz : its.toArray.size = bs.length := by rw [List.size_toArray, hbl, ← rs.length, rv.length]
    refine wpAny_pyIter_tuple hl ⟨s1, H1, s1.heap.push { cls := .type "tuple_iterator", data := .fields #[.ref p, .int 0 0] }, s1.toks, s1.heap.objs.size, [s1.heap.objs.size, p], [s1.heap.objs.size], bs, (fun i v => its.toArray[i]? = some v), (fun i h => h.IsTupleIter s1.heap.objs.size p i ∧ h.IsTuple p its.toArray), rfl, rfl, I1, fun b o e => Heap.get?_push_of_some _ e, by rw [Heap.size_push]; omega, fun b hb => ?_, fun A' hA => by rw [← hsz]; exact Walks.tuple hA _ p hne _, ⟨⟨_, Heap.get?_push_size _ rfl, rfl, rfl⟩, ?_⟩, fun b hb => ?_, tg, fin, elem its rv⟩
    · rcases List.mem_cons.mp hb with z | z
      · rw [z]; exact Nat.le_refl _
      · cases z
    · obtain ⟨o, e, r⟩ := hl
      exact ⟨o, Heap.get?_push_of_some _ e, r⟩
    · rw [Heap.size_push]
      rcases List.mem_cons.mp hb with z | z
      · rw [z]; exact ⟨Nat.lt_succ_self _, Nat.ne_of_gt hPlt⟩
      · rcases List.mem_cons.mp z with z | z
        · rw [z]; exact ⟨Nat.lt_succ_of_lt hlt, hpP⟩
        · cases z
theorem walks_bnd {prog : Program} {w : World} {A : Around} {I : Addr} {fp wr : List Addr} {n : Nat} {Pf : Nat → Value → Prop} {St : Nat → Heap → Prop} (W : Walks prog w A I fp wr n Pf St) : Walks prog w A I fp wr n (fun i v => i < n ∧ Pf i v) St where
  sub := W.sub
  frame := W.frame
  item := fun i s Q E hi st hQ => W.item i s Q E hi st fun v h' tk hP hS hk => hQ v h' tk ⟨hi, hP⟩ hS hk
  done := W.done
  self := W.self
/-- the source: a range -/
theorem gen_rng {lo hi : Int} (hT : TblK X.K P) (hq : QP X P scope [x] elt g) {t : L2.St → Hp → (Int → Int → Hp → Prop) → Prop} (hi : PRg X iter t) {it : AF} (σ : L2.St) (H : Hp) (Q : VK)
    (ht : ∀ c F ρ ω ds ω1, W X.K c F H σ ρ ω → it ρ ω = some (ds, ω1) → t σ H fun i j H1 => ∃ F1, Post c.q F H F1 H1 ω1 ∧ ds = upI i (j - i).toNat ∧ rgOk i = true ∧ rgOk j = true)
    (h : tE X.K (gE tot it g) σ H Q) : tGen X P scope x elt iter tot σ H Q := by
  intro pins s I
  obtain ⟨c, F, ρ, ω, d, ω', w, e, kQ⟩ := h
  obtain ⟨ds, ω1, e1, e⟩ := bnd_some e
  obtain ⟨e2, rfl⟩ := opt_some e
  rw [Option.map_eq_some_iff] at e2
  obtain ⟨bs, hbs, rfl⟩ := e2
  refine wpAny_mono (hi pins s σ H _ I (ht c F ρ ω ds ω' w e1)) (fun xv s1 ⟨r, i, j, t1, t2, t3, H1, hxv, hr, I1, F1, p1, hds, hi1, hj1⟩ => ?_) fun _ _ e => e
  subst hxv
  have w1 := w.ext p1
  have hTP := w.tb P hT
  have tg : GxR.TabG H1 P := (p1.ora.2 P hTP).2
  have hPs : ∃ ps, s1.heap.get? P = some { cls := .none, data := .fields ps } := let ⟨ps, hP, _⟩ := tg; ⟨ps, I1.hok P _ hP⟩
  obtain ⟨ps, hPs⟩ := hPs
  have hPlt : P < s1.heap.objs.size := Heap.lt_size hPs
  have hbl := gL_len hbs
  obtain ⟨b1', b2'⟩ := rgOk_iff hi1
  obtain ⟨b3', b4'⟩ := rgOk_iff hj1
  have hlen : bs.length = (j - i).toNat := by rw [hbl, hds, upI_length]
  refine wpAny_pyIter_range hr (small_one b1' b2' b3' b4') ⟨s1, H1, s1.heap.push { cls := .type "range_iterator", data := .fields #[rawInt i, rawInt (Builtin.Range.rangeSize i j 1), rawInt 1] }, s1.toks, s1.heap.objs.size, [s1.heap.objs.size], [s1.heap.objs.size], bs,
    (fun n v => n < bs.length ∧ ∃ t, v = .int (i + n * 1) t), (fun n h => IsRangeIter h s1.heap.objs.size (i + (n : Nat) * 1) ((bs.length : Int) - (n : Nat)) 1), rfl, rfl, I1, fun b o e => Heap.get?_push_of_some _ e, by rw [Heap.size_push]; omega, fun b hb => ?_, fun A' hA => walks_bnd (Walks.range hA _ _ _ _), ?_, fun b hb => ?_, tg, fun H2 t => kQ F1 H2 _ (p1.tabbed hTP t) (.bl _), ?_⟩
  · rcases List.mem_cons.mp hb with z | z
    · rw [z]; exact Nat.le_refl _
    · cases z
  · have e1 : i + ((0 : Nat) : Int) * 1 = i := by simp
    have e2 : ((bs.length : Nat) : Int) - ((0 : Nat) : Int) = Builtin.Range.rangeSize i j 1 := by rw [rangeSize_one, hlen]; split <;> omega
    show IsRangeIter _ _ (i + ((0 : Nat) : Int) * 1) ((bs.length : Int) - ((0 : Nat) : Int)) 1
    rw [e1, e2]
    exact Heap.get?_push_size _ rfl
  · rw [Heap.size_push]
    rcases List.mem_cons.mp hb with z | z
    · rw [z]; exact ⟨Nat.lt_succ_self _, Nat.ne_of_gt hPlt⟩
    · cases z
  · intro n v cenv A' E' s₂ m₂ hA hv hsc hcl hns hm hkp
    obtain ⟨hn, tk, rfl⟩ := hv
    · have hd1 : ds[n]? = some (.int (i + n)) := by
        rw [hds]
        have : n < (upI i (j - i).toNat).length := by rw [upI_length]; omega
        have hg := List.getElem?_eq_getElem this
        rw [hg]
        exact congrArg some (upI_get _ _ _ _ hg).2
      obtain ⟨b, hb1, hb2⟩ := gL_at hbs hd1
      obtain ⟨z, hz1, hz2⟩ := hq pins σ H1 s1 c F1 ρ ω' [.int (i + n)] [.int (i + n)] _ I1 w1 tg (.cons (.int _) .nil) hb2
      cases hz1
      refine wpAny_mono (hz2 cenv A' E' s₂ m₂ hA ⟨hsc, hcl, hns, fun j y v' hj hv' => ?_, hkp⟩) (fun y s3 r => ⟨⟨b, hb1, r.1⟩, r.2⟩) fun _ _ e => e
      cases j with
      | zero =>
        have h1 : x = y := by simpa using hj
        have h2 : V.int (i + n) = v' := by simpa using hv'
        subst h1
        subst h2
        rw [Int.mul_one] at hm
        exact ⟨_, hm, ⟨_, rfl⟩⟩
      | succ j => simp at hj
/-! the rules -/
theorem e_allS (hr : Room k X.A) (hm : X.mg "all" = none) (hcode : X.env.code = .ref c) (TB : GxR.TabB X.base X.mg c P) (hT : TblK X.K P) (hgo : genC X.env.scope scope [x] = true) (hi : PE X iter (tB X.K f)) (hq : QP X P scope [x] elt g)
    (hs : ∀ v, genFold iter X.env v = pure v := by intro _; rfl) (hg : Gl X "all" := by rfl)
    (he : starEach [.GeneratorExp elt [⟨.Name x px, iter, [], 0⟩] scope gpos] X.env = (false, eval (.GeneratorExp elt [⟨.Name x px, iter, [], 0⟩] scope gpos) X.env) :: starEach [] X.env := by rfl) :
    PE X (.Call (.Name "all" p) [.GeneratorExp elt [⟨.Name x px, iter, [], 0⟩] scope gpos] [] pos) (tE X.K (gE allT (seqA f) g)) :=
  pe_weak (pe_allG hr hm TB hcode (fun ok => (genOk_by hgo).s ok) hs hg (by decide +kernel) he) fun σ H Q h => gen_seq hT hi hq σ H Q h
theorem e_anyS (hr : Room k X.A) (hm : X.mg "any" = none) (hcode : X.env.code = .ref c) (TB : GxR.TabB X.base X.mg c P) (hT : TblK X.K P) (hgo : genC X.env.scope scope [x] = true) (hi : PE X iter (tB X.K f)) (hq : QP X P scope [x] elt g)
    (hs : ∀ v, genFold iter X.env v = pure v := by intro _; rfl) (hg : Gl X "any" := by rfl)
    (he : starEach [.GeneratorExp elt [⟨.Name x px, iter, [], 0⟩] scope gpos] X.env = (false, eval (.GeneratorExp elt [⟨.Name x px, iter, [], 0⟩] scope gpos) X.env) :: starEach [] X.env := by rfl) :
    PE X (.Call (.Name "any" p) [.GeneratorExp elt [⟨.Name x px, iter, [], 0⟩] scope gpos] [] pos) (tE X.K (gE anyT (seqA f) g)) :=
  pe_weak (pe_anyG hr hm TB hcode (fun ok => (genOk_by hgo).s ok) hs hg he) fun σ H Q h => gen_seq hT hi hq σ H Q h
theorem rg1_core {fa : EF} (σ : L2.St) (H : Hp) : ∀ c F ρ ω ds ω1, W X.K c F H σ ρ ω → itR1 fa ρ ω = some (ds, ω1) → tRg1 (tB X.K fa) σ H fun i j H1 => ∃ F1, Post c.q F H F1 H1 ω1 ∧ ds = upI i (j - i).toNat ∧ rgOk i = true ∧ rgOk j = true := by
  intro c F ρ ω ds ω1 w e
  obtain ⟨y, ω2, e1, e⟩ := bnd_some e
  obtain ⟨e2, rfl⟩ := opt_some e
  refine ⟨c, F, ρ, ω, y, _, w, e1, fun F1 H1 v p1 r1 => ?_⟩
  cases y <;> simp only [rg1, reduceCtorEq] at e2
  split at e2
  · rename_i j hj
    cases e2
    cases r1.int
    exact ⟨_, rfl, F1, p1, by simp, by decide, hj⟩
  · cases e2
theorem rg2_core {fa fb : EF} (σ : L2.St) (H : Hp) : ∀ c F ρ ω ds ω1, W X.K c F H σ ρ ω → itR2 fa fb ρ ω = some (ds, ω1) → tRg2 (tB X.K fa) (tB X.K fb) σ H fun i j H1 => ∃ F1, Post c.q F H F1 H1 ω1 ∧ ds = upI i (j - i).toNat ∧ rgOk i = true ∧ rgOk j = true := by
  intro c F ρ ω ds ω1 w e
  obtain ⟨y, ω2, e1, e⟩ := bnd_some e
  obtain ⟨z, ω3, e2, e⟩ := bnd_some e
  obtain ⟨e3, rfl⟩ := opt_some e
  refine ⟨c, F, ρ, ω, y, _, w, e1, fun F1 H1 v p1 r1 => ⟨c, F1, ρ, ω2, z, _, w.ext p1, e2, fun F2 H2 u p2 r2 => ?_⟩⟩
  unfold rg2 at e3
  split at e3
  · split at e3
    · rename_i hj
      rw [Bool.and_eq_true] at hj
      cases e3
      cases r1.int
      cases r2.int
      exact ⟨_, _, rfl, rfl, F2, p1.trans p2, rfl, hj.1, hj.2⟩
    · cases e3
  · cases e3
theorem e_allR1 {a : Expr} {fa : EF} {pr rpos : Pos} (hr : Room k X.A) (hm : X.mg "all" = none) (hmr : X.mg "range" = none) (hcode : X.env.code = .ref c) (TB : GxR.TabB X.base X.mg c P) (hT : TblK X.K P) (hgo : genC X.env.scope scope [x] = true) (ha : PE X a (tB X.K fa)) (hq : QP X P scope [x] elt g)
    (hs : ∀ v, genFold (.Call (.Name "range" pr) [a] [] rpos) X.env v = pure v := by intro _; rfl) (hg : Gl X "all" := by rfl) (hgr : Gl X "range" := by rfl) (na : starEach [a] X.env = (false, eval a X.env) :: starEach [] X.env := by rfl)
    (he : starEach [.GeneratorExp elt [⟨.Name x px, .Call (.Name "range" pr) [a] [] rpos, [], 0⟩] scope gpos] X.env = (false, eval (.GeneratorExp elt [⟨.Name x px, .Call (.Name "range" pr) [a] [] rpos, [], 0⟩] scope gpos) X.env) :: starEach [] X.env := by rfl) :
    PE X (.Call (.Name "all" p) [.GeneratorExp elt [⟨.Name x px, .Call (.Name "range" pr) [a] [] rpos, [], 0⟩] scope gpos] [] pos) (tE X.K (gE allT (itR1 fa) g)) :=
  pe_weak (pe_allG hr hm TB hcode (fun ok => (genOk_by hgo).s ok) hs hg (by decide +kernel) he) fun σ H Q h => gen_rng (lo := 0) (hi := 0) hT hq (prg_1 hgr hmr ha na) σ H Q (rg1_core σ H) h
theorem e_allR2 {a b : Expr} {fa fb : EF} {pr rpos : Pos} (hr : Room k X.A) (hm : X.mg "all" = none) (hmr : X.mg "range" = none) (hcode : X.env.code = .ref c) (TB : GxR.TabB X.base X.mg c P) (hT : TblK X.K P) (hgo : genC X.env.scope scope [x] = true) (ha : PE X a (tB X.K fa)) (hb : PE X b (tB X.K fb)) (hq : QP X P scope [x] elt g)
    (hs : ∀ v, genFold (.Call (.Name "range" pr) [a, b] [] rpos) X.env v = pure v := by intro _; rfl) (hg : Gl X "all" := by rfl) (hgr : Gl X "range" := by rfl) (na : starEach [a, b] X.env = (false, eval a X.env) :: starEach [b] X.env := by rfl) (nb : starEach [b] X.env = (false, eval b X.env) :: starEach [] X.env := by rfl)
    (hp : (backTo rpos (starEach [b] X.env)).any (·.1) = false := by rfl)
    (he : starEach [.GeneratorExp elt [⟨.Name x px, .Call (.Name "range" pr) [a, b] [] rpos, [], 0⟩] scope gpos] X.env = (false, eval (.GeneratorExp elt [⟨.Name x px, .Call (.Name "range" pr) [a, b] [] rpos, [], 0⟩] scope gpos) X.env) :: starEach [] X.env := by rfl) :
    PE X (.Call (.Name "all" p) [.GeneratorExp elt [⟨.Name x px, .Call (.Name "range" pr) [a, b] [] rpos, [], 0⟩] scope gpos] [] pos) (tE X.K (gE allT (itR2 fa fb) g)) :=
  pe_weak (pe_allG hr hm TB hcode (fun ok => (genOk_by hgo).s ok) hs hg (by decide +kernel) he) fun σ H Q h => gen_rng (lo := 0) (hi := 0) hT hq (prg_2 hgr hmr ha hb na nb hp) σ H Q (rg2_core σ H) h
end
/-- a def with a generator expression -/
theorem fn_okT {P : Program} {w : World} {K : PySem.W.Frag} {mg : Str → Option Value} {base : Heap} {x qual : Str} {st : Stmt} {f : Addr} {fd : FuncData} {N ps : List Str} {k : Nat} (F : Fun K x qual st f fd) (S : FnScope N ps (defScope st)) (fr : Bool) {s : SF} (T : TabAt K base mg fd)
    (hb : ∀ (c P' : Addr) (A : Around) (outer : List PySem.Env) (s' : Shared) (H : Hp) (E : XK), GxR.TabB base mg c P' → TblK K P' → Room k (A.deeper (envOfC qual (defScope st) s'.heap.objs.size f (.ref c))) →
      PSs (cxOf CX0 P w K mg base N qual (defScope st) f (.ref c) A outer s' H E).nox (defBody st) (tS K s)) :
    FnOk P w K mg base CX0 (k + 1) f fd ps (spD K fr (runS N.length ps.length fr s)) := by
  obtain ⟨oc, od, kV, doc, pm, an, cdv, ct, osl, rfl, lk, hcd⟩ := F.ex
  obtain ⟨c, P', hc, TB, hT⟩ := T
  have hc : cdv = .ref c := hc
  subst hc
  refine fn_of lk hcd S (fun vs H Q E h => ?_) fun A outer s' H vs Q E hr hsp => ?_
  · obtain ⟨q, F, ds, ω, d, ω', hs, ho, hr, e, k⟩ := h
    rw [hr.length, runS_len e]
  · exact ⟨_, (hb c P' A outer s' H E TB hT hr).nox, spD_run S.pre hsp⟩
end FL
end
section
set_option maxHeartbeats 2000000
/-! FL: sorted of rows of ints, the empty row among them. -/
namespace FL
open PySem PySem.Spec PyProof.Rows L2

/-- the ints of the tuple at u -/
def krow (h : Heap) (u : Value) : List Int := match u with
  | .ref a => (match h.get? a with
    | some o => (match o.data with
      | .seq items _ => items.toList.map numOf
      | _ => [])
    | none => [])
  | _ => []
/-- u is a tuple of ints -/
def TupV (h : Heap) (u : Value) : Prop := ∃ (a : Addr) (items : Array Value) (n : Nat) (ns : List Int) (dd : Option Addr) (sl : Array (Option Value)), u = .ref a ∧ h.get? a = some { cls := .type "tuple", dict := dd, data := .seq items n, slots := sl } ∧ IntsAre items.toList ns ∧ krow h u = ns
theorem TupV.mk {h : Heap} {a : Addr} {items : Array Value} {n : Nat} {ns : List Int} {dd : Option Addr} {sl : Array (Option Value)} (e : h.get? a = some { cls := .type "tuple", dict := dd, data := .seq items n, slots := sl }) (hi : IntsAre items.toList ns) : TupV h (.ref a) ∧ krow h (.ref a) = ns := by
  have : krow h (.ref a) = ns := by
    show (match h.get? a with
      | some o => (match o.data with
        | .seq items _ => items.toList.map numOf
        | _ => [])
      | none => []) = ns
    rw [e]
    exact hi.nums
  exact ⟨⟨a, items, n, ns, dd, sl, rfl, e, hi, this⟩, this⟩
theorem TupV.keeps {h h' : Heap} {u : Value} (t : TupV h u) (k : ∀ b o, u = .ref b → h.get? b = some o → h'.get? b = some o) : TupV h' u ∧ krow h' u = krow h u := by
  obtain ⟨a, items, n, ns, dd, sl, rfl, e, hi, hk⟩ := t
  obtain ⟨h1, h2⟩ := TupV.mk (k a _ rfl e) hi
  exact ⟨h1, h2.trans hk.symm⟩
section
variable {prog : Program} {w : World} {A : Around} {E : Value → Shared → Prop} {s : Shared}
theorem TupV.looks {M : Model} {h : Heap} {u : Value} (t : TupV h u) : PySem.W.Looks M h (typeOf u) (.type "tuple") := by
  obtain ⟨a, items, n, ns, dd, sl, rfl, e, hi, hk⟩ := t
  exact (PySem.W.Looks.ld e).andThen .now
theorem first_tupV {M : Model} {u : Value} {Q : Option Value → Shared → Prop} (t : TupV s.heap u) (h : ∀ v : Option Value, v.isSome = !(krow s.heap u).isEmpty → Q v s) : wpAny M A (firstOfTuple' u) Q E s := by
  obtain ⟨a, items, n, ns, dd, sl, rfl, e, hi, hk⟩ := t
  rw [PySem.W.kas_first_eq]
  refine wpAny_bind (PySem.W.Looks.here (show PySem.W.Looks M s.heap (typeOf (.ref a)) (.type "tuple") from (PySem.W.Looks.ld e).andThen .now) ?_)
  rw [if_neg (by first | decide | simp)]
  refine wpAny_bind (listItems_at e rfl ?_)
  refine wpAny_pure (h _ ?_)
  rw [hk]
  have := hi.length
  cases hns : ns with
  | nil => rw [hns] at this; simp at this; simp [this]
  | cons x r => rw [hns] at this; simp at this; rw [Array.getElem?_eq_getElem (by omega)]; rfl
theorem firsts_tupV {M : Model} : ∀ (vs : List Value) {Q : List (Option Value) → Shared → Prop}, (∀ v ∈ vs, TupV s.heap v) → (∀ fs : List (Option Value), fs.map (·.isSome) = vs.map (fun u => !(krow s.heap u).isEmpty) → Q fs s) → wpAny M A (vs.mapM firstOfTuple') Q E s
  | [], Q, _, h => by rw [List.mapM_nil]; exact wpAny_pure (h [] rfl)
  | v :: vs, Q, t, h => by
    rw [List.mapM_cons]
    refine wpAny_bind (first_tupV (t v (.head _)) fun f hf => wpAny_bind (firsts_tupV vs (fun u hu => t u (.tail _ hu)) fun fs hfs => wpAny_pure (h _ ?_)))
    rw [List.map_cons, List.map_cons, hf, hfs]
theorem kind_mixed {M : Model} {vs : List Value} {Q : SortKind → Shared → Prop} (h2 : 2 ≤ vs.length) (t : ∀ v ∈ vs, TupV s.heap v) (he : ∃ v ∈ vs, krow s.heap v = []) (h : Q (if (vs.head?.any fun u => !(krow s.heap u).isEmpty) = true then general' else oneType') s) : wpAny M A (keyKind' vs.toArray) Q E s := by
  rw [keyKind'_eq, List.mapM_toArray, map_eq_pure_bind]
  refine wpAny_bind (wpAny_bind (firsts_tupV vs t fun fs hfs => wpAny_pure ?_))
  have hna : (fs.toArray.all fun x => x.isSome) = false := by
    rw [List.all_toArray]
    have : fs.all (fun x => x.isSome) = (fs.map (·.isSome)).all id := by rw [List.all_map]; rfl
    rw [this, hfs, List.all_map]
    obtain ⟨v, hv, e⟩ := he
    rw [Bool.eq_false_iff]
    intro z
    have := List.all_eq_true.mp z v hv
    simp [e] at this
  rw [if_neg (by rw [hna]; decide)]
  have hf0 : ((fs.toArray[0]?).bind id).isSome = vs.head?.any fun u => !(krow s.heap u).isEmpty := by
    cases vs with
    | nil => simp at h2
    | cons v r =>
      cases fs with
      | nil => simp at hfs
      | cons f fr =>
        rw [List.map_cons, List.map_cons] at hfs
        have := (List.cons.inj hfs).1
        simpa using this
  rw [← hf0] at h
  by_cases hf : ((fs.toArray[0]?).bind id).isSome = true
  · rw [if_pos hf] at h ⊢
    exact wpAny_pure h
  · rw [if_neg hf] at h ⊢
    have h3 := h
    obtain ⟨v₁, v₂, rest, rfl⟩ : ∃ v₁ v₂ rest, vs = v₁ :: v₂ :: rest := by
      match vs, h2 with
      | [], h2 => simp at h2
      | [_], h2 => simp at h2
      | v₁ :: v₂ :: rest, _ => exact ⟨v₁, v₂, rest, rfl⟩
    rw [oneTypeOnly'_eq, List.mapM_toArray, map_eq_pure_bind]
    refine wpAny_bind (wpAny_bind (wpAny_bind (PySem.W.kas_mapM (r := .type "tuple") _ (fun v hv Q' hq => (TupV.looks (t v hv)).here hq) (wpAny_pure ?_))))
    have hall : ((List.map (fun _ => Value.type "tuple") (v₁ :: v₂ :: rest)).toArray.all fun x => x == Value.type "tuple") = true := by
      simp only [List.all_toArray, List.all_map, List.all_eq_true]
      intro _ _
      exact (by decide +kernel : (Value.type "tuple" == Value.type "tuple") = true)
    have h0 : (List.map (fun _ => Value.type "tuple") (v₁ :: v₂ :: rest)).toArray[0]? = some (.type "tuple") := by simp
    rw [h0]
    simp only [hall, if_true]
    exact wpAny_pure (wpAny_pure h3)
theorem cmp_mixed {κ : SortKind} (hκ : κ = general' ∨ κ = oneType') {vs : List Value} (hu : A.units < cLine) (t : ∀ v ∈ vs, TupV s.heap v) : SrtO.Cmp prog w A s κ (fun p => p.1 ∈ vs) (SrtO.lt2 fun v u => HT.lexLt (krow s.heap v) (krow s.heap u)) := by
  intro p q hp hq
  obtain ⟨a, items, n, ns, dd, sl, e1, ga, ia, ka⟩ := t p.1 hp
  obtain ⟨b, items2, n2, ms, dd2, sl2, e2, gb, ib, kb⟩ := t q.1 hq
  show wpAny (model prog w) A (keyLt' κ p.1 q.1) (fun r s' => s' = s ∧ r = HT.lexLt (krow s.heap p.1) (krow s.heap q.1)) (fun _ _ => False) s
  rw [ka, kb, e1, e2]
  have ta : IsTup s.heap a items := ⟨_, ga, rfl, n, rfl⟩
  have tb : IsTup s.heap b items2 := ⟨_, gb, rfl, n2, rfl⟩
  rcases hκ with rfl | rfl
  · exact PySem.W.kat_one (Q := fun r s' => s' = s ∧ r = HT.lexLt ns ms) _ _ (HT.lt_tupInts ta tb ia ib hu (show s = s ∧ HT.lexLt ns ms = HT.lexLt ns ms from ⟨rfl, rfl⟩))
  · rw [keyLt'_oneType, oneLt'_eq]
    simp only [if_true]
    refine wpAny_bind (wpAny_cRoomFor hu ?_)
    refine wpAny_bind (wpAny_callSpecialIfBound?_slot ta.typeIs PySem.F.slot_tuple_lt (call_meets PySem.F.slot_tuple_lt ta.typeIs PySem.F.entry_tuple_lt (PySem.F.args_tuple_lt_2 _ _) (HT.tuple_lt_ints a b items items2 n n2 dd dd2 sl sl2 ns ms ia ib) ⟨ga, gb, ?_⟩))
    exact wpAny_truthy_bool ⟨rfl, rfl⟩
theorem rows_sortable {a : Addr} {vs : List Value} (h2 : 2 ≤ vs.length) (hu : A.units < cLine) (t : ∀ v ∈ vs, TupV s.heap v) (he : ∃ v ∈ vs, krow s.heap v = []) (ha : ∀ v ∈ vs, v ≠ .ref a) (kr : Value → List Int) (hk : ∀ v ∈ vs, krow s.heap v = kr v) :
    SrtO.SortableO prog w A s a vs fun v u => HT.lexLt (kr v) (kr u) := by
  intro h' keep
  have t' : ∀ v ∈ vs, TupV h' v ∧ krow h' v = krow s.heap v := fun v hv => (t v hv).keeps fun b o e g => keep b o (fun z => ha v hv (by rw [e, z])) g
  have he' : ∃ v ∈ vs, krow h' v = [] := let ⟨v, hv, e⟩ := he; ⟨v, hv, (t' v hv).2.trans e⟩
  refine ⟨if (vs.head?.any fun u => !(krow h' u).isEmpty) = true then general' else oneType', fun Q E hq => kind_mixed (s := { s with heap := h' }) h2 (fun v hv => (t' v hv).1) he' hq, ?_⟩
  have c := cmp_mixed (prog := prog) (w := w) (A := A) (s := { s with heap := h' }) (κ := if (vs.head?.any fun u => !(krow h' u).isEmpty) = true then general' else oneType') (by split; exact .inl rfl; exact .inr rfl) hu (fun v hv => (t' v hv).1)
  intro p q hp hq
  have := c p q hp hq
  have e1 : krow h' p.1 = kr p.1 := (t' _ hp).2.trans (hk _ hp)
  have e2 : krow h' q.1 = kr q.1 := (t' _ hq).2.trans (hk _ hq)
  unfold SrtO.lt2 at this ⊢
  show wpAny _ _ _ (fun r s' => s' = _ ∧ r = HT.lexLt (kr p.1) (kr q.1)) _ _
  rw [← e1, ← e2]
  exact this
end
theorem lexLt_lt : ∀ xs ys : List Int, HT.lexLt xs ys = !leR ys xs
  | [], [] => rfl
  | [], _ :: _ => rfl
  | _ :: _, [] => rfl
  | x :: xs, y :: ys => by
    rw [HT.lexLt_cons]
    unfold leR
    by_cases h : x = y
    · subst h; rw [if_pos rfl, if_pos rfl]; exact lexLt_lt xs ys
    · rw [if_neg h, if_neg (Ne.symm h)]
      by_cases h2 : x < y
      · rw [decide_eq_true h2, decide_eq_false (by omega)]; rfl
      · rw [decide_eq_false h2, decide_eq_true (by omega)]; rfl
theorem leR_of_not {xs ys : List Int} (h : HT.lexLt ys xs = false) : xs ≤ ys := by
  rw [lexLt_lt, Bool.not_eq_false', leR_iff, decide_eq_true_eq] at h
  exact h
section
variable {X : Cx}
abbrev rSortedRm (K : PySem.W.Frag) : List V → Hp → VK → Prop := fun vs H Q => ∃ (a : Addr) (xs : List V) (bs : List (List Int)) (S : V → List Int → Prop), vs = [V.ref a] ∧ SqL K H a xs ∧ PySem.W.EachIs (fun x b => RowV K H x b ∧ S x b) xs bs ∧ 2 ≤ bs.length ∧ (∃ b ∈ bs, b = []) ∧
  ∀ (ys : List V) (p : Addr), PySem.W.EachIs (fun x b => RowV K H x b ∧ S x b) ys (srtR bs) → H p = none → Q (.ref p) (upd H p (.lst ys))
theorem numOf_ints : ∀ {ns : List Int} {us : List Value}, Vals (ns.map V.int) us → IntsAre us ns
  | [], us, h => by cases h; exact .nil
  | n :: ns, us, h => by
    cases h with
    | cons r1 r2 =>
      obtain ⟨t, rfl⟩ := r1
      exact .cons _ _ (numOf_ints r2)
theorem row_tupV {pins : List (Addr × Obj)} {σ : L2.St} {H : Hp} {s : Shared} {x : V} {u : Value} {b : List Int} (I : Inv X pins σ H s) (h : RowV X.K H x b) (r : RelV x u) : TupV s.heap u ∧ krow s.heap u = b := by
  obtain ⟨t, rfl, hq⟩ := h
  cases r
  obtain ⟨its, rv, ⟨⟨cls, dd, data, sl⟩, ho, hc, n, hd⟩, _⟩ := I.tuple hq
  simp only at hc hd
  subst hc hd
  exact TupV.mk ho (numOf_ints rv)
theorem each_all {R : Value → List Int → Prop} {f : Value → List Int} : ∀ {us : List Value} {bs : List (List Int)}, PySem.W.EachIs R us bs → (∀ u b, R u b → f u = b) → (∀ u ∈ us, R u (f u)) ∧ us.map f = bs
  | _, _, .nil, _ => ⟨(fun u hu => by cases hu), rfl⟩
  | _, _, .cons (a := u) h t, k => by
    obtain ⟨a, e⟩ := each_all t k
    have e1 := k _ _ h
    refine ⟨fun v hv => ?_, by rw [List.map_cons, e, e1]⟩
    rcases List.mem_cons.mp hv with rfl | hv
    · rw [e1]; exact h
    · exact a v hv
theorem each_of {R : Value → List Int → Prop} {f : Value → List Int} : ∀ {us : List Value}, (∀ u ∈ us, R u (f u)) → PySem.W.EachIs R us (us.map f)
  | [], _ => .nil
  | u :: us, h => .cons (h u (.head _)) (each_of fun v hv => h v (.tail _ hv))
theorem cr_sortedRm (hu : X.A.units + 64 < cLine) : CallR X (.builtin "sorted") (rSortedRm X.K) := by
  intro pins s σ H vs us Q I r h
  obtain ⟨a, xs, bs, S, rfl, hs, he, h2, hn, q⟩ := h
  obtain ⟨its, rv, hl, hz⟩ := I.list hs
  rw [Vals.ref1 r]
  have e1 := each_rel rv he
  have hlen : its.length = bs.length := e1.length
  have hlx := rv.length
  obtain ⟨g1, g2⟩ := each_all (f := krow s.heap) e1 fun u b ⟨x, rx, hx⟩ => (row_tupV I hx.1 rx).2
  have tv : ∀ u ∈ its, TupV s.heap u := fun u hu => let ⟨x, rx, hx⟩ := g1 u hu; (row_tupV I hx.1 rx).1
  have hemp : ∃ v ∈ its, krow s.heap v = [] := by
    obtain ⟨b, hb, rfl⟩ := hn
    rw [← g2] at hb
    obtain ⟨v, hv, e⟩ := List.mem_map.mp hb
    exact ⟨v, hv, e⟩
  refine SrtO.sorted_ord (ltv := fun v u => HT.lexLt (krow s.heap v) (krow s.heap u)) (NtL.swo_lexL _) hl.isList (by rw [← hlx]; exact hz) (fun _ h₁ c hc kk => ?_) fun out o1 o2 => ?_
  · have tk : ∀ v ∈ its, TupV h₁ v ∧ krow h₁ v = krow s.heap v := fun v hv => (tv v hv).keeps fun b o e g => (kk b o g).2
    refine rows_sortable (s := { s with heap := h₁ }) (by omega) (by have : X.A.in1.in1.units = X.A.units + 2 := rfl; omega) (fun v hv => (tk v hv).1) (let ⟨v, hv, e⟩ := hemp; ⟨v, hv, (tk v hv).2.trans e⟩) (fun v hv z => ?_) (krow s.heap) fun v hv => (tk v hv).2
    obtain ⟨b, items, n, ns, dd, sl, e, ge, _⟩ := tv v hv
    rw [e] at z
    cases z
    exact (kk _ _ ge).1 rfl
  · obtain ⟨ep, he'⟩ := PyProof.Rows.sortedAll_at s.heap its out.toArray
    have hmem : ∀ u ∈ out, ∃ x, RelV x u ∧ (RowV X.K H x (krow s.heap u) ∧ S x (krow s.heap u)) := fun u hu => g1 u (o2.perm.mem_iff.mp hu)
    have e2 := each_of (R := fun u b => ∃ x, RelV x u ∧ (RowV X.K H x b ∧ S x b)) hmem
    have hsr : out.map (krow s.heap) = srtR bs := by
      refine rows_uniq ((o2.perm.map _).trans (by rw [g2]; exact (srtR_perm bs).symm)) ?_ (srtR_sorted bs)
      rw [List.pairwise_map]
      exact o1.imp fun hh => leR_of_not hh
    rw [hsr] at e2
    obtain ⟨ys, hv, hy⟩ := each_back e2
    have hyl := hv.length
    have hol : out.length = its.length := o2.perm.length_eq
    exact ⟨.ref _, upd H (s.heap.objs.size + 1) (.lst ys), I.laid (t' := s.toks) (fun _ _ => PyProof.Rows.sortedAll_old) (Nat.le_succ _) ⟨by omega, out, ep, hv, he'⟩, rfl, q _ _ hy (I.hok.fresh (Nat.le_succ _))⟩
end
/-- sorted of rows, empty ones among them -/
def aSortM : List D → Option D
  | [.lst ds] => match aSortA [.lst ds] with
    | some d => some d
    | none => if 2 ≤ ds.length then (rowsOf ds).map fun bs => .lst ((srtR bs).map rowD) else none
  | x => aSortA x
abbrev rSortM (K : PySem.W.Frag) : List V → Hp → VK → Prop := fun xs H Q => rSortA K xs H Q ∨ rSortedRm K xs H Q
theorem cr_sortM {X : Cx} (hu : X.A.units + 64 < cLine) : CallR X (.builtin "sorted") (rSortM X.K) := (cr_sortA hu).or (cr_sortedRm hu)
theorem sortM_pureF {K : PySem.W.Frag} : PureAF K (rSortM K) aSortM := by
  intro q F H ω xs a d Q hs ho hx e k
  unfold aSortM at e
  split at e
  · rename_i ds
    split at e
    · rename_i d' e1
      cases e
      exact .inl (sortA_pureF q F H ω xs _ _ Q hs ho hx e1 k)
    · rename_i e1
      split at e
      · rename_i h2
        rw [Option.map_eq_some_iff] at e
        obtain ⟨bs, e2, rfl⟩ := e
        obtain ⟨v, rfl, hv⟩ := hx.one
        obtain ⟨p, vs, rfl, h1, r⟩ := hv.lst hs
        have hne : ∃ b ∈ bs, b = [] := by
          apply Classical.byContradiction
          intro hno
          have hall : (bs.all fun b => !b.isEmpty) = true := List.all_eq_true.mpr fun b hb => by
            cases b with
            | nil => exact (hno ⟨[], hb, rfl⟩).elim
            | cons x y => rfl
          simp only [aSortA] at e1
          rw [if_neg (by omega)] at e1
          cases h3 : intsOf ds with
          | some ns => rw [h3] at e1; cases e1
          | none =>
            rw [h3, e2] at e1
            simp only [hall, if_true] at e1
            cases e1
        have hbl : ds.length = bs.length := by rw [rowsOf_eq e2, List.length_map]
        cases rowsOf_eq e2
        refine .inr ⟨p, vs, bs, fun x b => Rep K q F x (rowD b), rfl, .inl (.inl h1), reps_rows hs r, by omega, hne, fun ys l he hl => ?_⟩
        exact k F _ l (Post.fresh hs ho hl) hl (same_none hs hl) ⟨_, upd_same, each_reps (each_right he)⟩
      · cases e
  · exact .inl (sortA_pureF q F H ω xs _ _ Q hs ho hx e k)
theorem aSortM_rows (L : List (List Int)) : aSortM [.lst (L.map rowD)] = some (.lst ((srtR L).map rowD)) := by
  unfold aSortM
  show (match aSortA [.lst (L.map rowD)] with
    | some d => some d
    | none => if 2 ≤ (L.map rowD).length then (rowsOf (L.map rowD)).map fun bs => D.lst ((srtR bs).map rowD) else none) = _
  cases e : aSortA [.lst (L.map rowD)] with
  | none =>
    rw [rowsOf_map]
    have h2 : 2 ≤ (L.map rowD).length := by
      apply Classical.byContradiction
      intro h
      simp only [aSortA] at e
      rw [if_pos (by omega)] at e
      cases e
    simp only [if_pos h2]; rfl
  | some d =>
    simp only [aSortA] at e
    split at e
    · rename_i hl
      cases e
      rw [List.length_map] at hl
      match L, hl with
      | [], _ => rfl
      | [x], _ => rfl
      | _ :: _ :: _, h => exact absurd h (by simp only [List.length_cons]; omega)
    · rename_i hl
      cases L with
      | nil => simp at hl
      | cons x r =>
        have h0 : intsOf ((x :: r).map rowD) = none := rfl
        rw [h0, rowsOf_map] at e
        simp only at e
        split at e
        · cases e; rfl
        · cases e
end FL
end
section
set_option maxHeartbeats 2000000
/-! FL: all(..), any(..) of a generator expression over zip(a, b). -/
namespace FL
open PySem PySem.Spec PyProof.Rows L2

def SrcQ2 (X : Cx) (pins : List (Addr × Obj)) (σ : L2.St) (P : Addr) (scope : Scope) (xa xb : Str) (elt : Expr) (R : List Bool → Hp → Prop) (it : Value) (s2 : Shared) : Prop :=
  ∃ (s1 : Shared) (H1 : Hp) (h2 : Heap) (t2 : Nat) (Ia : Addr) (fp wr : List Addr) (bs : List Bool) (Pf : Nat → Array Value → Prop) (St : Nat → Heap → Prop) (Mid : Nat → Addr → Heap → Prop),
    s2 = { s1 with heap := h2, toks := t2 } ∧ it = .ref Ia ∧ Inv X pins σ H1 s1 ∧ (∀ b o, s1.heap.get? b = some o → h2.get? b = some o) ∧ s1.heap.objs.size ≤ h2.objs.size ∧ (∀ b ∈ wr, s1.heap.objs.size ≤ b) ∧
    (∀ A' : Around, A'.handled = none → WalksU X.prog X.w A' Ia fp wr bs.length Pf St Mid) ∧ (∀ i vals, Pf i vals → ∃ va vb, vals = #[va, vb]) ∧ St 0 h2 ∧ (∀ b ∈ fp, b < h2.objs.size ∧ b ≠ P) ∧ GxR.TabG H1 P ∧ R bs H1 ∧
    ∀ (i : Nat) (va vb : Value) (cenv : PySem.Env) (A' : Around) (E' : Value → Shared → Prop) (s₂ : Shared) (m₂ : Str → Option Value), A'.handled = none → Pf i #[va, vb] → cenv.scope = scope → cenv.cells = cloFrom X.env.cells scope.names [] → s₂.heap.Ns cenv.locals m₂ → m₂ xa = some va → m₂ xb = some vb →
      (∀ b o, b ≠ P → s1.heap.get? b = some o → s₂.heap.get? b = some o) → wpAny (model X.prog X.w) A' (eval elt cenv) (fun y s₃ => (∃ b, bs[i]? = some b ∧ y = .bool b) ∧ Keeps s₂ s₃) E' s₂
section
variable {X : Cx} {pins : List (Addr × Obj)} {σ : L2.St} {H : Hp} {s : Shared}
theorem gen_core2 {c P : Addr} {elt iter : Expr} {xa xb : Str} {pa pb pt gpos : Pos} {kt : Nat} {scope : Scope} {k : Nat} {Q' : Value → Shared → Prop} {R : List Bool → Hp → Prop}
    (hr : Room k X.A) (TB : GxR.TabB X.base X.mg c P) (hcode : X.env.code = .ref c) (S : GenOk X scope [xa, xb]) (hok : X.Ok) (hab : xa ≠ xb) (hs : ∀ v, genFold iter X.env v = pure v)
    (h : wpAny (model X.prog X.w) X.A (eval iter X.env) (fun xv s1 => wpAny (model X.prog X.w) X.A (pyIter xv) (SrcQ2 X pins σ P scope xa xb elt R) X.xe s1) X.xe s)
    (hQ : ∀ bs H1 g s5, R bs H1 → ReadyG X pins σ P H1 bs g s5 → Q' (.ref g) s5) :
    wpAny (model X.prog X.w) X.A (eval (.GeneratorExp elt [⟨.Tuple [.Name xa pa, .Name xb pb] kt pt, iter, [], 0⟩] scope gpos) X.env) Q' X.xe s := by
  refine wpAny_GeneratorExp_walksQT hr.hd S.co (closure_ok (S.fr hok)) S.cell S.dot (S.loc xa (by simp)) (S.loc xb (by simp)) hab S.kind (by have := hr.dp; omega) ?_ hs
  refine wpAny_mono h (fun xv s0 h0 => wpAny_mono h0 (fun it s2 hsrc => ?_) fun _ _ e => e) fun _ _ e => e
  obtain ⟨s1, H1, h2, t2, Ia, fp, wr, bs, Pf, St, Mid, rfl, rfl, I1, k12, z12, hwr, W, hsz2, hst, hfp, ⟨ps, hP, ht⟩, q1, hel⟩ := hsrc
  have hPs : s1.heap.get? P = some { cls := .none, data := .fields ps } := I1.hok P _ hP
  have hPlt : P < s1.heap.objs.size := Heap.lt_size hPs
  have hP2 : h2.get? P = some { cls := .none, data := .fields ps } := k12 _ _ hPs
  have cd : PySem.W.CodeHd h2 c P := TB.code.keeps fun b u e => k12 _ _ (I1.bk b u e)
  have lim2 : h2.NoLimit := I1.nolimit.keeps k12
  have cont : ∀ (code : Value) (h3 : Heap) (tk : Nat) (ps' : Array Value), Heap.ExtBut P h2 h3 → h2.objs.size ≤ h3.objs.size → h3.get? P = some { cls := .none, data := .fields ps' } → (∃ more, ps' = ps ++ more) → TriplesOk ps'.toList →
      wpAny (model X.prog X.w) X.A (builtinsFor X.env.globals X.env.builtins) (fun bi s₄ =>
        ∃ Ib fp wr n₀ Pf St₀ Mid pz F, Value.ref Ia = .ref Ib ∧ (∀ A' : Around, A'.handled = none → WalksU X.prog X.w A' Ib fp wr n₀ Pf St₀ Mid) ∧ (∀ i vals, Pf i vals → ∃ va vb, vals = #[va, vb]) ∧ St₀ 0 s₄.heap ∧ (∀ b ∈ fp, b < s₄.heap.objs.size) ∧ s₄.heap.NoLimit ∧ cStatics ∉ wr ∧
          (∀ href : Heap, (∀ b o, s₄.heap.get? b = some o → href.get? b = some o) →
            QuietGenT X.prog X.w (genEnv scope (cloFrom X.env.cells scope.names []) s₄.heap.objs.size code bi X.env) xa xb [] elt (List.range s₄.heap.objs.size) wr Pf pz F href) ∧
          (∀ a h₅ tk gs, gs.bare = true → s₄.heap.objs.size < a → h₅.objs.size = a + 1 → (∀ b o, s₄.heap.get? b = some o → h₅.get? b = some o) →
            WalksS X.prog X.w X.A.in4 a (a :: s₄.heap.objs.size :: List.range s₄.heap.objs.size) (s₄.heap.objs.size :: wr) (GenOnlyQ s₄.gens.size) (passing pz n₀ 0).length
              (fun j y => ∃ i, (passing pz n₀ 0)[j]? = some i ∧ F i y) (GenAt X.prog X.w X.A.in4 a s₄.gens.size s₄.heap.objs.size (List.range s₄.heap.objs.size) wr pz n₀ F) →
            GenAt X.prog X.w X.A.in4 a s₄.gens.size s₄.heap.objs.size (List.range s₄.heap.objs.size) wr pz n₀ F 0 { s₄ with gens := s₄.gens.push gs, toks := tk, heap := h₅ } →
            Q' (.ref a) { s₄ with gens := s₄.gens.push gs, toks := tk, heap := h₅ })) X.xe { s1 with heap := h3, toks := tk } := by
    intro code h3 tk ps' hx hsz hP3 hmore ht3
    obtain ⟨bm, ob, e1, e2, e3, e4, e5, e6, e7, e8⟩ := TB.bm
    have hcP : cStatics ≠ P := fun e => by
      obtain ⟨_, hns, _⟩ := I1.nolimit
      obtain ⟨o', es, ep, ho, hd, _⟩ := hns
      rw [e, hPs] at ho
      cases ho
      cases hd
    have hcl : cStatics < s1.heap.objs.size := let ⟨_, hns, _⟩ := I1.nolimit; hns.lt
    have keep3 : ∀ b u, b ≠ P → s1.heap.get? b = some u → h3.get? b = some u := fun b u hb e => hx b u hb (k12 _ _ e)
    refine wpAny_builtinsFor (m := X.mg) (by rw [I1.ok.glob]; exact (I1.mod.glob.keeps fun b u e => k12 _ _ (I1.bk b u e)).extBut hx TB.gP) e1 e2 (keep3 _ _ e4 (I1.bk _ _ e5)) e6 e7 e8 ?_
    refine ⟨Ia, fp, wr, bs.length, Pf, St, Mid, (fun _ => true), (fun i y => ∃ b, bs[i]? = some b ∧ y = .bool b), rfl, W, hsz2, ?_, ?_, lim2.extBut hx hcP, ?_, ?_, ?_⟩
    · exact (W X.A hr.hd).frame _ _ _ hst fun b hb u e => hx b u (hfp b hb).2 e
    · intro b hb
      exact Nat.lt_of_lt_of_le (hfp b hb).1 hsz
    · intro z
      exact absurd (hwr _ z) (Nat.not_le_of_lt hcl)
    · intro href hhref
      refine ⟨fun A' E' i va vb s₂ m₂ hA hPv hn hm hmb hk => ?_, fun A' E' i va vb s₂ m₂ hA hPv hp hn hm hmb hk => ?_⟩
      · simp only [List.forIn_nil]
        exact wpAny_pure ⟨rfl, keeps_refl _⟩
      · refine hel i va vb _ A' E' s₂ m₂ hA hPv rfl rfl hn hm hmb fun b o hb e => ?_
        have hb3 : b < s1.heap.objs.size := Heap.lt_size e
        refine hk b (List.mem_range.mpr ?_) (fun z => absurd (hwr _ z) (Nat.not_le_of_lt hb3)) o (hhref _ _ (keep3 b o hb e))
        exact Nat.lt_of_lt_of_le (Nat.lt_of_lt_of_le hb3 z12) hsz
    · intro g h5 tk5 gs hgb hag hsz5 hk5 W5 hat
      simp only [GxR.passing_true, List.length_range] at W5
      refine hQ bs H1 g _ q1 ⟨_, _, _, _, _, W5.in4_1, hat, ?_, fun s' hm => ?_⟩
      · intro j y sj Qj Ej hy hQj
        obtain ⟨i, hij, b, hb, rfl⟩ := hy
        obtain ⟨hj, ej⟩ := List.getElem?_eq_some_iff.mp hij
        rw [List.getElem_range] at ej
        subst ej
        have hQ2 : Qj (bs.getD j false) sj := hQj
        rw [List.getD_eq_getElem?_getD, hb] at hQ2
        exact wpAny_truthy_bool hQ2
      · obtain ⟨more, em⟩ := hmore
        have nwr : ∀ b u, s1.heap.get? b = some u → b ∉ h3.objs.size :: wr := fun b u e hb => by
          have hl := Heap.lt_size e
          rcases List.mem_cons.mp hb with z | z
          · rw [z] at hl
            have h9 : (h3.objs.size : Nat) < s1.heap.objs.size := hl
            omega
          · exact absurd (hwr _ z) (Nat.not_le_of_lt hl)
        have J := GxR.inv_tab (more := more) (h' := s'.heap) (g' := s'.gens) (d' := s'.drawn) (t' := s'.toks) I1 hP (fun b u hb e => hm.heap b u (nwr b u e) (hk5 b u (keep3 b u hb e)))
          (by rw [← em]; exact hm.heap P _ (nwr P _ hPs) (hk5 P _ hP3)) (AllBare.movedS (I1.bare.push hgb) hm)
        rw [GxR.sh_eta s1 s' hm.os] at J
        refine ⟨upd H1 P (.tbl (ps ++ more)), ⟨⟨ps ++ more, upd_same, by rw [← em]; exact ht3⟩, fun b hb => upd_ne hb⟩, J⟩
  refine ⟨lim2, ?_⟩
  cases hf : codeAmong gpos ps.toList with
  | none =>
    refine wpAny_genexprCodeX hcode (cd.code hP2 ht) (cd.tab hP2) hf fun c' h' tk hx hge hlt hco' _ htab' _ => ?_
    obtain ⟨o1, vs, f1, tf, fl, tg, inF, tx, tt, op, _, _, _, _, _, _, _, _, _, htr, _⟩ := hco'
    exact cont _ h' tk _ hx (Nat.le_trans hge (Nat.le_of_lt hlt)) htab'.2 ⟨_, rfl⟩ htr
  | some cv =>
    refine wpAny_genexprCode_hit hcode (cd.code hP2 ht) hf ?_
    exact cont cv h2 t2 ps (Heap.ExtBut.refl _ _) (Nat.le_refl _) hP2 ⟨#[], by simp⟩ ht
def tGen2 (X : Cx) (P : Addr) (scope : Scope) (xa xb : Str) (elt iter : Expr) (tot : List Bool → Bool) : TE := fun σ H Q => ∀ pins s, Inv X pins σ H s →
  wpAny (model X.prog X.w) X.A (eval iter X.env) (fun xv s1 => wpAny (model X.prog X.w) X.A (pyIter xv) (SrcQ2 X pins σ P scope xa xb elt fun bs H1 => ∀ H2, GxR.Tabbed P H1 H2 → Q (.bl (tot bs)) H2) X.xe s1) X.xe s
theorem pe_allG2 {c P : Addr} {elt iter : Expr} {xa xb : Str} {pa pb pt p pos gpos : Pos} {kt : Nat} {scope : Scope} {k : Nat}
    (hr : Room k X.A) (hm : X.mg "all" = none) (TB : GxR.TabB X.base X.mg c P) (hcode : X.env.code = .ref c) (S : GenOk X scope [xa, xb]) (hab : xa ≠ xb)
    (hs : ∀ v, genFold iter X.env v = pure v) (hg : Gl X "all" := by rfl) (hb : bootBuiltins "all" = some (.builtin "all") := by first | assumption | decide +kernel)
    (he : starEach [.GeneratorExp elt [⟨.Tuple [.Name xa pa, .Name xb pb] kt pt, iter, [], 0⟩] scope gpos] X.env = (false, eval (.GeneratorExp elt [⟨.Tuple [.Name xa pa, .Name xb pb] kt pt, iter, [], 0⟩] scope gpos) X.env) :: starEach [] X.env := by rfl) :
    PE X (.Call (.Name "all" p) [.GeneratorExp elt [⟨.Tuple [.Name xa pa, .Name xb pb] kt pt, iter, [], 0⟩] scope gpos] [] pos) (tGen2 X P scope xa xb elt iter fun bs => bs.all id) := by
  refine ⟨fun pins s σ H Q I h => ?_⟩
  refine wpAny_Call_Name_kw (ld_blt I hg hm hb ?_)
  refine PyProof.Rows.callWith_builtin1 ?_ he (by rfl)
  rw [he]
  show wpAny _ _ (spliced ((false, eval (.GeneratorExp elt [⟨.Tuple [.Name xa pa, .Name xb pb] kt pt, iter, [], 0⟩] scope gpos) X.env) :: backTo pos (starEach [] X.env))) _ _ s
  refine Calls.spliced_cons (gen_core2 (R := fun bs H1 => ∀ H2, GxR.Tabbed P H1 H2 → Q (.bl (bs.all id)) H2) hr TB hcode S I.ok hab hs (h pins s I) fun bs H1 g s5 hR hG => ?_)
  obtain ⟨fp, wr, G, F, St, W, hst, htr, hI⟩ := hG
  refine Calls.spliced_nil ?_
  refine call_all_walkS (W.self 0 _ _ _ hst ⟨g, fp, wr, G, _, F, St, _, rfl, W, hst, htr, fun s' hmv => ?_⟩)
  obtain ⟨H2, hT, J⟩ := hI s' hmv
  refine ⟨.bl _, H2, J, rfl, ?_⟩
  rw [all_getD bs]
  exact hR H2 hT
theorem pe_anyG2 {c P : Addr} {elt iter : Expr} {xa xb : Str} {pa pb pt p pos gpos : Pos} {kt : Nat} {scope : Scope} {k : Nat}
    (hr : Room k X.A) (hm : X.mg "any" = none) (TB : GxR.TabB X.base X.mg c P) (hcode : X.env.code = .ref c) (S : GenOk X scope [xa, xb]) (hab : xa ≠ xb)
    (hs : ∀ v, genFold iter X.env v = pure v) (hg : Gl X "any" := by rfl)
    (he : starEach [.GeneratorExp elt [⟨.Tuple [.Name xa pa, .Name xb pb] kt pt, iter, [], 0⟩] scope gpos] X.env = (false, eval (.GeneratorExp elt [⟨.Tuple [.Name xa pa, .Name xb pb] kt pt, iter, [], 0⟩] scope gpos) X.env) :: starEach [] X.env := by rfl) :
    PE X (.Call (.Name "any" p) [.GeneratorExp elt [⟨.Tuple [.Name xa pa, .Name xb pb] kt pt, iter, [], 0⟩] scope gpos] [] pos) (tGen2 X P scope xa xb elt iter fun bs => bs.any id) := by
  refine ⟨fun pins s σ H Q I h => ?_⟩
  refine wpAny_Call_Name_kw (ld_blt I hg hm boot_any ?_)
  refine PyProof.Rows.callWith_builtin1 ?_ he (by rfl)
  rw [he]
  show wpAny _ _ (spliced ((false, eval (.GeneratorExp elt [⟨.Tuple [.Name xa pa, .Name xb pb] kt pt, iter, [], 0⟩] scope gpos) X.env) :: backTo pos (starEach [] X.env))) _ _ s
  refine Calls.spliced_cons (gen_core2 (R := fun bs H1 => ∀ H2, GxR.Tabbed P H1 H2 → Q (.bl (bs.any id)) H2) hr TB hcode S I.ok hab hs (h pins s I) fun bs H1 g s5 hR hG => ?_)
  obtain ⟨fp, wr, G, F, St, W, hst, htr, hI⟩ := hG
  refine Calls.spliced_nil ?_
  refine call_any_walkS (W.self 0 _ _ _ hst ⟨g, fp, wr, G, _, F, St, _, rfl, W, hst, htr, fun s' hmv => ?_⟩)
  obtain ⟨H2, hT, J⟩ := hI s' hmv
  refine ⟨.bl _, H2, J, rfl, ?_⟩
  rw [any_getD bs]
  exact hR H2 hT
end
/-- what a list or a tuple gives to zip -/
structure DrawsSeq (X : Cx) (h : Heap) (p : Addr) (its : List Value) (o : Obj) (Hs : Heap → Prop) : Prop where
  begins : Begins (.ref p) o Hs
  here : Hs h
  lt : p < h.objs.size
  draws : ∃ St : Addr → Nat → Heap → Prop, ∀ i1 : Addr, p ≠ i1 → (∀ A : Around, A.handled = none → Draws X.prog X.w A i1 [i1, p] its.length (fun i v => its[i]? = some v) (St i1)) ∧
    ∀ h' : Heap, h'.get? i1 = some o → (∀ b u, h.get? b = some u → h'.get? b = some u) → St i1 0 h'
section
variable {X : Cx} {pins : List (Addr × Obj)} {σ : L2.St} {H1 : Hp} {s1 : Shared} {P : Addr}
theorem draws_seq (I : Inv X pins σ H1 s1) (t : GxR.TabG H1 P) {p : Addr} {vs : List V} (h : SqL X.K H1 p vs ∨ SqT X.K H1 p vs) : ∃ its o Hs, Vals vs its ∧ p ≠ P ∧ DrawsSeq X s1.heap p its o Hs := by
  rcases h with h | h
  · obtain ⟨its, rv, pl, hz⟩ := I.list h
    have hl := pl.isList
    refine ⟨its, _, _, rv, (let ⟨o, e, _, _, d⟩ := hl; tab_nc I t e fun vs z => by rw [d] at z; cases z), begins_list p its.toArray, hl, (let ⟨_, e, _⟩ := hl; Heap.lt_size e), fun i1 i (h : Heap) => h.IsListIter i1 p i ∧ h.IsList p its.toArray, fun i1 hne => ⟨fun A hA => ?_, fun h' e k => ⟨⟨_, e, rfl, rfl⟩, let ⟨o, e2, r⟩ := hl; ⟨o, k _ _ e2, r⟩⟩⟩⟩
    have D := Draws.list (prog := X.prog) (w := X.w) hA i1 p hne its.toArray
    simp only [List.size_toArray, List.getElem?_toArray] at D
    exact D
  · obtain ⟨its, rv, pl, hz⟩ := I.tuple h
    have hl : s1.heap.IsTuple p its.toArray := pl
    refine ⟨its, _, _, rv, (let ⟨o, e, _, n, d⟩ := hl; tab_nc I t e fun vs z => by rw [d] at z; cases z), begins_tuple p its.toArray, hl, (let ⟨_, e, _⟩ := hl; Heap.lt_size e), fun i1 i (h : Heap) => h.IsTupleIter i1 p i ∧ h.IsTuple p its.toArray, fun i1 hne => ⟨fun A hA => ?_, fun h' e k => ⟨⟨_, e, rfl, rfl⟩, let ⟨o, e2, r⟩ := hl; ⟨o, k _ _ e2, r⟩⟩⟩⟩
    have D := Draws.tuple (prog := X.prog) (w := X.w) hA i1 p hne its.toArray
    simp only [List.size_toArray, List.getElem?_toArray] at D
    exact D
end
def gL2 (g : QF) (ρ : Env) : List D → List D → Option (List Bool)
  | a :: as, b :: bs => ((g ρ [a, b]).bind bolD).bind fun x => (gL2 g ρ as bs).map (x :: ·)
  | _, _ => some []
def gE2 (tot : List Bool → Bool) (fa fb : EF) (g : QF) : EF := fun ρ => bnd (fa ρ) fun x => bnd (fb ρ) fun y => opt ((seqD x).bind fun xs => (seqD y).bind fun ys => (gL2 g ρ xs ys).map fun bs => .bl (tot bs))
theorem gL2_len {g : QF} {ρ : Env} : ∀ {as bs : List D} {r : List Bool}, gL2 g ρ as bs = some r → r.length = min as.length bs.length
  | [], bs, r, h => by unfold gL2 at h; cases h; simp
  | _ :: _, [], r, h => by unfold gL2 at h; cases h; simp
  | a :: as, b :: bs, r, h => by
    unfold gL2 at h
    cases h1 : (g ρ [a, b]).bind bolD with
    | none => rw [h1] at h; cases h
    | some x =>
      rw [h1] at h
      have h : (gL2 g ρ as bs).map (x :: ·) = some r := h
      rw [Option.map_eq_some_iff] at h
      obtain ⟨r', h2, rfl⟩ := h
      rw [List.length_cons, List.length_cons, List.length_cons, gL2_len h2]
      omega
theorem gL2_at {g : QF} {ρ : Env} : ∀ {as bs : List D} {r : List Bool} {i : Nat} {a b : D}, gL2 g ρ as bs = some r → as[i]? = some a → bs[i]? = some b → ∃ x, r[i]? = some x ∧ g ρ [a, b] = some (.bl x)
  | [], bs, r, i, a, b, _, h, _ => by simp at h
  | _ :: _, [], r, i, a, b, _, _, h => by simp at h
  | c :: as, d :: bs, r, i, a, b, h, ha, hb => by
    unfold gL2 at h
    cases h1 : (g ρ [c, d]).bind bolD with
    | none => rw [h1] at h; cases h
    | some x =>
      rw [h1] at h
      have h : (gL2 g ρ as bs).map (x :: ·) = some r := h
      rw [Option.map_eq_some_iff] at h
      obtain ⟨r', h2, rfl⟩ := h
      cases i with
      | zero =>
        have ha : c = a := by simpa using ha
        have hb : d = b := by simpa using hb
        subst ha hb
        refine ⟨x, rfl, ?_⟩
        cases h3 : g ρ [c, d] with
        | none => rw [h3] at h1; cases h1
        | some y =>
          rw [h3] at h1
          have h1 : bolD y = some x := h1
          cases y <;> simp [bolD] at h1
          subst h1
          rfl
      | succ i => exact gL2_at (i := i) h2 (by simpa using ha) (by simpa using hb)
theorem walksU_bnd {prog : Program} {w : World} {A : Around} {I : Addr} {fp wr : List Addr} {n : Nat} {Pt : Nat → Array Value → Prop} {St : Nat → Heap → Prop} {Mid : Nat → Addr → Heap → Prop} (W : WalksU prog w A I fp wr n Pt St Mid) : WalksU prog w A I fp wr n (fun i v => i < n ∧ Pt i v) St Mid := W.bound
section
variable {X : Cx} {P c : Addr} {scope : Scope} {xa xb : Str} {elt a b : Expr} {fa fb : EF} {g : QF} {pa pb pt p pz zpos pos gpos : Pos} {kt k : Nat} {tot : List Bool → Bool}
theorem gen_zip (hm : X.mg "zip" = none) (hg : Gl X "zip") (na : starEach [a, b] X.env = (false, eval a X.env) :: starEach [b] X.env) (nb : starEach [b] X.env = (false, eval b X.env) :: starEach [] X.env) (hpl : (backTo zpos (starEach [b] X.env)).any (·.1) = false)
    (hT : TblK X.K P) (ha : PE X a (tB X.K fa)) (hb : PE X b (tB X.K fb)) (hq : QP X P scope [xa, xb] elt g) (σ : L2.St) (H : Hp) (Q : VK) (h : tE X.K (gE2 tot fa fb g) σ H Q) : tGen2 X P scope xa xb elt (.Call (.Name "zip" pz) [a, b] [] zpos) tot σ H Q := by
  intro pins s I
  obtain ⟨c, F, ρ, ω, d, ω', w, e, kQ⟩ := h
  obtain ⟨x, ω1, e1, e⟩ := bnd_some e
  obtain ⟨y, ω2, e2, e⟩ := bnd_some e
  obtain ⟨e3, rfl⟩ := opt_some e
  obtain ⟨xs, hxs, e3⟩ := Option.bind_eq_some_iff.mp e3
  obtain ⟨ys, hys, e3⟩ := Option.bind_eq_some_iff.mp e3
  rw [Option.map_eq_some_iff] at e3
  obtain ⟨bs, hbs, rfl⟩ := e3
  refine Call_ (ld_blt I hg hm PyProof.Rows.boot_zip (PyProof.Rows.callWith_type1 (thn ((pa_cons ha (pa_cons hb pa_nil nb) na).run zpos pins s σ H (fun vs H2 => ∃ v u F2, vs = [v, u] ∧ Post c.q F H F2 H2 ω' ∧ Vw X.K c.q F2 H2 v x ∧ Vw X.K c.q F2 H2 u y) I
    ⟨c, F, ρ, ω, x, ω1, w, e1, fun F1 H1 v p1 r1 => ⟨c, F1, ρ, ω1, y, ω', w.ext p1, e2, fun F2 H2 u p2 r2 => ⟨v, u, F2, rfl, p1.trans p2, r1.ext p2, r2⟩⟩⟩) fun us s1 ⟨vs, H1, I1, r1, v, u, F1, ev, p1, q1, q2⟩ => ?_) na hpl))
  subst ev
  have w1 := w.ext p1
  have hTP := w.tb P hT
  have tg : GxR.TabG H1 P := (p1.ora.2 P hTP).2
  obtain ⟨p, vs, rfl, hp, rs⟩ := q1.seq p1.le hxs
  obtain ⟨q, ws, rfl, hq', rs2⟩ := q2.seq p1.le hys
  obtain ⟨v1, v2, rfl, hv1, hv2⟩ := vals2 r1
  cases (show v1 = Value.ref p from hv1)
  cases (show v2 = Value.ref q from hv2)
  obtain ⟨its, o1, Hs1, rv1, np1, D1⟩ := draws_seq I1 tg hp
  obtain ⟨its2, o2, Hs2, rv2, np2, D2⟩ := draws_seq I1 tg hq'
  have hPs : ∃ ps, s1.heap.get? P = some { cls := .none, data := .fields ps } := let ⟨ps, hP, _⟩ := tg; ⟨ps, I1.hok P _ hP⟩
  obtain ⟨ps, hPs⟩ := hPs
  have hPlt : P < s1.heap.objs.size := Heap.lt_size hPs
  have hlen := gL2_len hbs
  refine zip_begins2 D1.begins D2.begins D1.here D2.here fun h' hz hTI hTO g1 g2 hsz hk => wpAny_pyIter_zip hz ?_
  generalize hN : s1.heap.objs.size = N at *
  obtain ⟨St1, hSt1⟩ := D1.draws
  obtain ⟨St2, hSt2⟩ := D2.draws
  have lp : p < N := hN ▸ D1.lt
  have lq : q < N := hN ▸ D2.lt
  obtain ⟨d1, st1⟩ := hSt1 N (Nat.ne_of_lt lp)
  obtain ⟨d2, st2⟩ := hSt2 (N + 1) (Nat.ne_of_lt (Nat.lt_succ_of_lt lq))
  have sep := zip_sep2 (N := N) (fp1 := [p]) (fp2 := [q]) (fun b hb => by rw [List.mem_singleton.mp hb]; exact lp) (fun b hb => by rw [List.mem_singleton.mp hb]; exact lq)
  have hmin : min its.length its2.length = bs.length := by rw [hlen, ← rs.length, ← rs2.length, rv1.length, rv2.length]
  have W : ∀ A' : Around, A'.handled = none → WalksU X.prog X.w A' (N + 4) ((N + 4) :: (N + 2) :: (N + 3) :: ([N, p] ++ [N + 1, q])) [N + 4, N + 3, N, N + 1] bs.length _ _ _ := fun A' hA => by
    rw [← hmin]
    exact walksU_bnd (WalksT.zipD2 sep (d1 A'.in1 hA) (d2 A'.in1 hA)).toU
  refine ⟨s1, H1, h', s1.toks, N + 4, _, _, bs, _, _, _, rfl, rfl, I1, hk, by rw [hsz, hN]; omega, fun b hb => ?_, W, fun i vals hv => let ⟨_, x1, x2, _, _, e⟩ := hv; ⟨x1, x2, e⟩, ⟨hz, hTI, ⟨_, _, hTO⟩, st1 h' g1 hk, st2 h' g2 hk⟩, fun b hb => ?_, tg, fun H2 t => kQ F1 H2 _ (p1.tabbed hTP t) (.bl _), ?_⟩
  · rw [hN]
    simp only [List.mem_cons, List.not_mem_nil, or_false] at hb
    rcases hb with rfl | rfl | rfl | rfl
    · exact Nat.le_add_right _ _
    · exact Nat.le_add_right _ _
    · exact Nat.le_refl _
    · exact Nat.le_add_right _ _
  · rw [hsz]
    simp only [List.mem_cons, List.mem_append, List.not_mem_nil, or_false] at hb
    rcases hb with rfl | rfl | rfl | (rfl | rfl) | (rfl | rfl)
    · exact ⟨show (N + 4 : Nat) < N + 5 by omega, Nat.ne_of_gt (Nat.lt_of_lt_of_le hPlt (Nat.le_add_right _ _))⟩
    · exact ⟨show (N + 2 : Nat) < N + 5 by omega, Nat.ne_of_gt (Nat.lt_of_lt_of_le hPlt (Nat.le_add_right _ _))⟩
    · exact ⟨show (N + 3 : Nat) < N + 5 by omega, Nat.ne_of_gt (Nat.lt_of_lt_of_le hPlt (Nat.le_add_right _ _))⟩
    · exact ⟨Nat.lt_add_of_pos_right (by decide), Nat.ne_of_gt hPlt⟩
    · exact ⟨Nat.lt_of_lt_of_le lp (Nat.le_add_right _ _), np1⟩
    · exact ⟨show (N + 1 : Nat) < N + 5 by omega, Nat.ne_of_gt (Nat.lt_of_lt_of_le hPlt (Nat.le_add_right _ _))⟩
    · exact ⟨Nat.lt_of_lt_of_le lq (Nat.le_add_right _ _), np2⟩
  · intro i va vb cenv A' E' s₂ m₂ hA hv hsc hcl hns hma hmb hkp
    obtain ⟨hi, x1, x2, hx1, hx2, hv⟩ := hv
    obtain ⟨rfl, rfl⟩ : va = x1 ∧ vb = x2 := by simpa using congrArg Array.toList hv
    have hi1 : i < vs.length := by rw [rv1.length]; exact (List.getElem?_eq_some_iff.mp hx1).1
    have hi2 : i < ws.length := by rw [rv2.length]; exact (List.getElem?_eq_some_iff.mp hx2).1
    obtain ⟨u1, hu1, ru1⟩ := rv1.get (List.getElem?_eq_getElem hi1)
    obtain ⟨u2, hu2, ru2⟩ := rv2.get (List.getElem?_eq_getElem hi2)
    rw [hx1] at hu1
    rw [hx2] at hu2
    cases hu1
    cases hu2
    obtain ⟨dx, hd1, hd2⟩ := rs.getV (List.getElem?_eq_getElem hi1)
    obtain ⟨dy, hd3, hd4⟩ := rs2.getV (List.getElem?_eq_getElem hi2)
    obtain ⟨bb, hb1, hb2⟩ := gL2_at hbs hd1 hd3
    obtain ⟨z, hz1, hz2⟩ := hq pins σ H1 s1 c F1 ρ ω' [vs[i], ws[i]] [dx, dy] _ I1 w1 tg (.cons hd2 (.cons hd4 .nil)) hb2
    cases hz1
    refine wpAny_mono (hz2 cenv A' E' s₂ m₂ hA ⟨hsc, hcl, hns, fun j y v' hj hv' => ?_, hkp⟩) (fun y s3 r => ⟨⟨bb, hb1, r.1⟩, r.2⟩) fun _ _ e => e
    match j with
    | 0 =>
      have h1 : xa = y := by simpa using hj
      have h2 : vs[i] = v' := by simpa using hv'
      subst h1
      subst h2
      exact ⟨va, hma, ru1⟩
    | 1 =>
      have h1 : xb = y := by simpa using hj
      have h2 : ws[i] = v' := by simpa using hv'
      subst h1
      subst h2
      exact ⟨vb, hmb, ru2⟩
    | j + 2 => simp at hj
theorem e_allZ (hr : Room k X.A) (hm : X.mg "all" = none) (hmz : X.mg "zip" = none) (hcode : X.env.code = .ref c) (TB : GxR.TabB X.base X.mg c P) (hT : TblK X.K P) (hgo : genC X.env.scope scope [xa, xb] = true) (ha : PE X a (tB X.K fa)) (hb : PE X b (tB X.K fb)) (hq : QP X P scope [xa, xb] elt g)
    (hab : xa ≠ xb := by decide) (hs : ∀ v, genFold (.Call (.Name "zip" pz) [a, b] [] zpos) X.env v = pure v := by intro _; rfl) (hg : Gl X "all" := by rfl) (hgz : Gl X "zip" := by rfl)
    (na : starEach [a, b] X.env = (false, eval a X.env) :: starEach [b] X.env := by rfl) (nb : starEach [b] X.env = (false, eval b X.env) :: starEach [] X.env := by rfl) (hpl : (backTo zpos (starEach [b] X.env)).any (·.1) = false := by rfl)
    (he : starEach [.GeneratorExp elt [⟨.Tuple [.Name xa pa, .Name xb pb] kt pt, .Call (.Name "zip" pz) [a, b] [] zpos, [], 0⟩] scope gpos] X.env = (false, eval (.GeneratorExp elt [⟨.Tuple [.Name xa pa, .Name xb pb] kt pt, .Call (.Name "zip" pz) [a, b] [] zpos, [], 0⟩] scope gpos) X.env) :: starEach [] X.env := by rfl) :
    PE X (.Call (.Name "all" p) [.GeneratorExp elt [⟨.Tuple [.Name xa pa, .Name xb pb] kt pt, .Call (.Name "zip" pz) [a, b] [] zpos, [], 0⟩] scope gpos] [] pos) (tE X.K (gE2 allT fa fb g)) :=
  pe_weak (pe_allG2 hr hm TB hcode (genOk_by hgo) hab hs hg (by decide +kernel) he) fun σ H Q h => gen_zip hmz hgz na nb hpl hT ha hb hq σ H Q h
end
end FL
end
section
/-! FL: [e for x in a if s for y in b if t] -/
namespace FL
open PySem PySem.Spec PyProof.Rows L2
def thO : SV → SV
  | .o _ => .un
  | .t _ _ => .un
  | x => x
/-- own lists put out of sight -/
def dropO (ρ : Env) : Env := ρ.map thO
theorem nth_dropO : ∀ (ρ : Env) (i : Nat), nth (dropO ρ) i = thO (nth ρ i)
  | [], i => by cases i <;> rfl
  | x :: ρ, 0 => rfl
  | x :: ρ, i + 1 => nth_dropO ρ i
theorem no_dropO (ρ : Env) (i : Nat) (x : D) : nth (dropO ρ) i ≠ .o x := by
  rw [nth_dropO]
  cases nth ρ i <;> (intro z; cases z)
theorem no_dropOT (ρ : Env) (i n : Nat) (x : D) : nth (dropO ρ) i ≠ .t n x := by
  rw [nth_dropO]
  cases nth ρ i <;> (intro z; cases z)
theorem W.dropO {K : PySem.W.Frag} {c : Ctx} {F H : Hp} {σ : L2.St} {ρ : Env} {ω : Ora} (w : W K c F H σ ρ ω) : W K c F H σ (FL.dropO ρ) ω :=
  ⟨w.post, by unfold FL.dropO; rw [List.length_map]; exact w.len, fun i x e => w.fz i x (by
    rw [nth_dropO] at e
    cases h : nth ρ i with
    | d y => rw [h] at e; exact e
    | o y => rw [h] at e; cases e
    | _ => rw [h] at e; cases e), fun i x e => absurd e (no_dropO ρ i x), fun i j x y _ e _ => absurd e (no_dropO ρ i x), w.tb, .no fun i n x e => no_dropOT ρ i n x e⟩
theorem W.hop {K : PySem.W.Frag} {c : Ctx} {F H F' H' : Hp} {σ : L2.St} {ρ : Env} {ω ω' : Ora} (w : W K c F H σ ρ ω) (hno : ∀ i x, nth ρ i ≠ .o x) (hnt : ∀ i n x, nth ρ i ≠ .t n x) (p : Post c.q c.F0 c.H0 F' H' ω') (h : Same F F') : W K c F' H' σ ρ ω' :=
  ⟨p, w.len, fun i x e => let ⟨v, h1, r⟩ := w.fz i x e; ⟨v, h1, r.mono h⟩, fun i x e => absurd e (hno i x), fun i j x y _ e _ => absurd e (hno i x), w.tb, .no hnt⟩
theorem no_fgt {ρ : Env} (vs : List Nat) (h : ∀ i x, nth ρ i ≠ .o x) (i : Nat) (x : D) : nth (FL.fgt vs ρ) i ≠ .o x := by
  rw [nth_fgt]
  split
  · intro z; cases z
  · exact h i x
def lcL2 (b : GF) (tt : BF) (it1 : AF) (b1 : GF) (tt1 : BF) (el : EF) (vs1 : List Nat) (ρ : Env) : List D → M (List D)
  | [] => ret []
  | d :: ds => bnd (opt (b d ρ)) fun ρ1 => bnd (tt ρ1) fun t => bif t then bnd (it1 ρ1) fun es => bnd (lcL b1 tt1 el (FL.fgt vs1 (dropO ρ1)) es) fun xs => bnd (lcL2 b tt it1 b1 tt1 el vs1 ρ ds) fun r => ret (xs ++ r) else lcL2 b tt it1 b1 tt1 el vs1 ρ ds
def lcE2 (it : AF) (b : GF) (tt : BF) (it1 : AF) (b1 : GF) (tt1 : BF) (el : EF) (vs vs1 : List Nat) : EF := fun ρ => bnd (it ρ) fun ds => bnd (lcL2 b tt it1 b1 tt1 el vs1 (FL.fgt vs ρ) ds) fun xs => if xs.length ≤ sizeLine then ret (.lst xs) else opt none
theorem lc2_core2 {K : PySem.W.Frag} {it it1 : AF} {b b1 : GF} {tt tt1 : BF} {el : EF} {vs vs1 is is1 : List Nat} (hsub : ∀ j ∈ is, j ∈ vs) (hsub1 : ∀ j ∈ is1, j ∈ vs1) {σ : L2.St} {H : Hp} {Q : VK}
    (h : tF K (lcE2 it b tt it1 b1 tt1 el vs vs1) σ H Q) : tLc2 (tI K it) (tG K is b) (tT' K tt) (tI K it1) (tG K is1 b1) (tT' K tt1) (tE K el) vs vs1 σ H Q := by
  obtain ⟨c, F, ρ, ω, d, ω', w, e, k⟩ := h
  obtain ⟨ds, ω1, e1, e⟩ := bnd_some e
  obtain ⟨xs, ω2, e2, e⟩ := bnd_some e
  split at e
  · rename_i hz
    obtain ⟨rfl, rfl⟩ := ret_some e
    refine ⟨c, F, ρ, ω, ds, ω1, w, e1, fun F1 H1 J p1 hJ D hD => ?_⟩
    have w1 := w.ext p1
    have hF1 : F1 D = none := same_none p1.le hD
    have qfD : Qfree c.q D := qfree_none p1.ora hD
    refine ⟨fun i m H => m = ds.length - i ∧ i ≤ ds.length ∧ ∃ F ω acc da r, Post c.q F1 H1 F H ω ∧ F D = none ∧ H D = some (.lst acc) ∧ Reps K c.q F acc da ∧ lcL2 b tt it1 b1 tt1 el vs1 (FL.fgt vs ρ) (ds.drop i) ω = some (r, ω') ∧ da ++ r = xs,
      ⟨_, rfl, Nat.zero_le _, F1, ω1, [], [], xs, Post.fresh p1.le p1.ora hD, hF1, upd_same, .nil, e2, rfl⟩, ?_⟩
    rintro i m H ⟨rfl, hi, F, ω, acc, da, r, p, hF, hH, rr, e, hx⟩
    obtain ⟨h1, h2⟩ := hJ F H ω p.le0 p.le p.ora i
    by_cases hlt : i < ds.length
    · have hd : ds[i]? = some ds[i] := by simp [hlt]
      obtain ⟨go, yl⟩ := h1 _ hd
      have edrop : ds.drop i = ds[i] :: ds.drop (i + 1) := List.drop_eq_getElem_cons hlt
      rw [edrop] at e
      obtain ⟨ρ1, ω3, ea, eb⟩ := bnd_some e
      obtain ⟨t, ω4, e4, ec⟩ := bnd_some eb
      obtain ⟨e3, rfl⟩ := opt_some ea
      refine .inr ⟨go, fun H' => i + 1 ≤ ds.length ∧ ∃ F ω acc da r, Post c.q F1 H1 F H' ω ∧ F D = none ∧ H' D = some (.lst acc) ∧ Reps K c.q F acc da ∧ lcL2 b tt it1 b1 tt1 el vs1 (FL.fgt vs ρ) (ds.drop (i + 1)) ω = some (r, ω') ∧ da ++ r = xs, fun H' h => ⟨_, by omega, rfl, h⟩, fun x H3 hy => ?_⟩
      obtain ⟨F3, p3, r3⟩ := yl x H3 hy
      have wi := (((w1.ext p).ext p3).wipe vs)
      refine ⟨c, F3, _, _, _, ρ1, wi, r3, e3, fun σ4 w4 l4 hs4 => ⟨wipe_eq (by rw [l4, wipe_length]) (fun j hj => hs4 j fun z => hj (hsub j z)), c, F3, ρ1, _, t, ω4, w4, e4, fun F5 H5 p5 => ?_⟩⟩
      have hH5 : H5 D = some (.lst acc) := p5.kept _ _ (p3.kept _ _ hH qfD) qfD
      have hF5 : F5 D = none := by
        rw [p5.new D (by rw [p3.kept _ _ hH qfD]; exact trivial), p3.new D (by rw [hH]; exact trivial)]; exact hF
      have pp := (p.trans p3).trans p5
      cases t with
      | false => exact iteF ⟨hlt, F5, ω4, acc, da, r, pp, hF5, hH5, (rr.mono p3.le0).mono p5.le0, ec, hx⟩
      | true =>
        obtain ⟨es, ω5, e5, ed⟩ := bnd_some ec
        have w5 := w4.ext p5
        refine iteT ⟨c, F5, ρ1, ω4, es, ω5, w5, e5, fun F6 H6 J1 p6 hJ1 => ?_⟩
        have w6 := (w5.ext p6).dropO
        have hH6 : H6 D = some (.lst acc) := p6.kept _ _ hH5 qfD
        have hF6 : F6 D = none := by rw [p6.new D (by rw [hH5]; exact trivial)]; exact hF5
        refine ⟨fun j m H => m = es.length - j ∧ j ≤ es.length ∧ ∃ F ω acc da r, Post c.q F1 H1 F H ω ∧ Same F6 F ∧ F D = none ∧ H D = some (.lst acc) ∧ Reps K c.q F acc da ∧ bnd (lcL b1 tt1 el (FL.fgt vs1 (FL.dropO ρ1)) (es.drop j)) (fun xs => bnd (lcL2 b tt it1 b1 tt1 el vs1 (FL.fgt vs ρ) (ds.drop (i + 1))) fun r => ret (xs ++ r)) ω = some (r, ω') ∧ da ++ r = xs,
          ⟨_, rfl, Nat.zero_le _, F6, ω5, acc, da, r, pp.trans p6, .refl _, hF6, hH6, ((rr.mono p3.le0).mono p5.le0).mono p6.le0, ed, hx⟩, ?_⟩
        rintro j m7 H7 ⟨rfl, hj, F7, ω7, acc7, da7, r7, p7, s7, hF7, hH7, rr7, e7, hx7⟩
        obtain ⟨h3, h4⟩ := hJ1 F7 H7 ω7 s7 p7.le p7.ora j
        by_cases hlt1 : j < es.length
        · have hd1 : es[j]? = some es[j] := by simp [hlt1]
          obtain ⟨go1, yl1⟩ := h3 _ hd1
          have edrop1 : es.drop j = es[j] :: es.drop (j + 1) := List.drop_eq_getElem_cons hlt1
          rw [edrop1] at e7
          obtain ⟨ys, ω8, f1, f2⟩ := bnd_some e7
          obtain ⟨ρ2, ω9, ga, gb⟩ := bnd_some f1
          obtain ⟨t1, ω10, g4, gc⟩ := bnd_some gb
          obtain ⟨g3, rfl⟩ := opt_some ga
          refine .inr ⟨go1, fun H => j + 1 ≤ es.length ∧ ∃ F ω acc da r, Post c.q F1 H1 F H ω ∧ Same F6 F ∧ F D = none ∧ H D = some (.lst acc) ∧ Reps K c.q F acc da ∧ bnd (lcL b1 tt1 el (FL.fgt vs1 (FL.dropO ρ1)) (es.drop (j + 1))) (fun xs => bnd (lcL2 b tt it1 b1 tt1 el vs1 (FL.fgt vs ρ) (ds.drop (i + 1))) fun r => ret (xs ++ r)) ω = some (r, ω') ∧ da ++ r = xs, fun H' h => ⟨_, by omega, rfl, h⟩, fun x1 H8 hy1 => ?_⟩
          obtain ⟨F8, p8, r8⟩ := yl1 x1 H8 hy1
          have w8 := ((w6.hop (no_dropO ρ1) (no_dropOT ρ1) (w1.post.trans p7) s7).ext p8).wipe vs1
          refine ⟨c, F8, _, _, _, ρ2, w8, r8, g3, fun σ9 w9 l9 hs9 => ⟨wipe_eq (by rw [l9, wipe_length]) (fun jj hjj => hs9 jj fun z => hjj (hsub1 jj z)), c, F8, ρ2, _, t1, ω10, w9, g4, fun F9 H9 p9 => ?_⟩⟩
          have hH9 : H9 D = some (.lst acc7) := p9.kept _ _ (p8.kept _ _ hH7 qfD) qfD
          have hF9 : F9 D = none := by
            rw [p9.new D (by rw [p8.kept _ _ hH7 qfD]; exact trivial), p8.new D (by rw [hH7]; exact trivial)]; exact hF7
          have pp9 := (p7.trans p8).trans p9
          cases t1 with
          | false => exact iteF ⟨hlt1, F9, ω10, acc7, da7, r7, pp9, (s7.trans p8.le0).trans p9.le0, hF9, hH9, (rr7.mono p8.le0).mono p9.le0, by
              show bnd (lcL b1 tt1 el (FL.fgt vs1 (FL.dropO ρ1)) (es.drop (j + 1))) _ ω10 = _
              unfold bnd
              rw [show lcL b1 tt1 el (FL.fgt vs1 (FL.dropO ρ1)) (es.drop (j + 1)) ω10 = some (ys, ω8) from gc]
              exact f2, hx7⟩
          | true =>
            obtain ⟨y, ω11, g5, gd⟩ := bnd_some gc
            obtain ⟨ys', ω12, g6, ge⟩ := bnd_some gd
            obtain ⟨rfl, rfl⟩ := ret_some ge
            obtain ⟨r', ω13, k1, k2⟩ := bnd_some f2
            obtain ⟨rfl, rfl⟩ := ret_some k2
            refine iteT ⟨c, F9, ρ2, ω10, y, ω11, w9.ext p9, g5, fun F10 H10 v p10 r10 => ⟨acc7, p10.kept _ _ hH9 qfD, ?_, hlt1, F10, ω11, acc7 ++ [v], da7 ++ [y], ys' ++ r', (pp9.trans p10).upd_free p1.ora hD ?_, ((s7.trans p8.le0).trans p9.le0).trans p10.le0, ?_, upd_same, (((rr7.mono p8.le0).mono p9.le0).mono p10.le0).append (.cons r10 .nil), ?_, by rw [← hx7, List.append_assoc]; rfl⟩⟩
            · rw [rr7.length]
              have := congrArg List.length hx7
              rw [List.length_append, List.cons_append, List.length_cons] at this
              omega
            · rw [p10.new D (by rw [hH9]; exact trivial)]; exact hF9
            · rw [p10.new D (by rw [hH9]; exact trivial)]; exact hF9
            · unfold bnd
              rw [g6]
              simp only [k1]
              rfl
        · have hge : es.length ≤ j := by omega
          refine .inl ⟨h4 hge, hlt, ?_⟩
          rw [List.drop_of_length_le hge] at e7
          obtain ⟨ys, ω8, f1, f2⟩ := bnd_some e7
          obtain ⟨rfl, rfl⟩ := ret_some f1
          obtain ⟨r', ω13, k1, k2⟩ := bnd_some f2
          obtain ⟨rfl, rfl⟩ := ret_some k2
          exact ⟨F7, _, acc7, da7, r', p7, hF7, hH7, rr7, k1, hx7⟩
    · have hge : ds.length ≤ i := by omega
      refine .inl ⟨h2 hge, ?_⟩
      rw [List.drop_of_length_le hge] at e
      obtain ⟨rfl, rfl⟩ := ret_some e
      rw [List.append_nil] at hx
      subst hx
      exact k F H D (p1.trans p) (none_back p1 hD) hF ⟨_, hH, rr⟩
  · cases e
section
variable {X : Cx} {elt tg iter tg1 iter1 : Expr} {ifs ifs1 : List Expr} {scope : Scope} {pos : Pos} {it it1 : AF} {b b1 : GF} {tt tt1 : BF} {el : EF} {is is1 : List Nat}
theorem f_lc2 (own : List (Str × Nat)) (vs1 : List Nat) (hN : X.N.Nodup) (hi : PI X tg iter (tI X.K it))
    (hg : ∀ (s : Shared) (H : Hp) (C : Addr) (cl : List (Str × Addr)) (fp : List Addr), PG (X.blk s H scope (compEnvC scope cl C X.env) fp) tg (tG X.K is b))
    (ht : ∀ (s : Shared) (H : Hp) (C : Addr) (cl : List (Str × Addr)) (fp : List Addr), PTs (X.blk s H scope (compEnvC scope cl C X.env) fp) ifs (tT' X.K tt))
    (hi1 : ∀ (s : Shared) (H : Hp) (C : Addr) (cl : List (Str × Addr)) (fp : List Addr), PI (X.blk s H scope (compEnvC scope cl C X.env) fp) tg1 iter1 (tI X.K it1))
    (hg1 : ∀ (s : Shared) (H : Hp) (C : Addr) (cl : List (Str × Addr)) (fp : List Addr), PG (X.blk s H scope (compEnvC scope cl C X.env) fp) tg1 (tG X.K is1 b1))
    (ht1 : ∀ (s : Shared) (H : Hp) (C : Addr) (cl : List (Str × Addr)) (fp : List Addr), PTs (X.blk s H scope (compEnvC scope cl C X.env) fp) ifs1 (tT' X.K tt1))
    (he : ∀ (s : Shared) (H : Hp) (C : Addr) (cl : List (Str × Addr)) (fp : List Addr), PE (X.blk s H scope (compEnvC scope cl C X.env) fp) elt (tE X.K el))
    (ok : blkC X.N X.env.scope scope own = true := by kernel_rfl) (hv : ∀ i ∈ vs1, i ∈ own.map (·.2) := by decide) (hsub : ∀ j ∈ is, j ∈ own.map (·.2) := by decide) (hsub1 : ∀ j ∈ is1, j ∈ vs1 := by decide) (hc : X.calm = true := by rfl)
    (hs : ∀ x, foldedSetIterable iter X.env x = pure x := by intro _; rfl) (hs1 : ∀ env x, foldedSetIterable iter1 env x = pure x := by intro _ _; rfl) :
    PE X (.ListComp elt [⟨tg, iter, ifs, 0⟩, ⟨tg1, iter1, ifs1, 0⟩] scope pos) (tF X.K (lcE2 it b tt it1 b1 tt1 el (own.map (·.2)) vs1)) :=
  pe_weak (pe_lc2 (own := own) (vs1 := vs1) hc hN hi (blkOk_by ok) hv hg ht hi1 hg1 ht1 he hs hs1) fun σ H Q h => lc2_core2 hsub hsub1 h
end
theorem lcE2_nd {it it1 : AF} {b b1 : GF} {tt tt1 : BF} {el : EF} {vs vs1 : List Nat} : ∀ ρ ω d ω', lcE2 it b tt it1 b1 tt1 el vs vs1 ρ ω = some (d, ω') → isDic d = false := fun ρ ω d ω' e => by
  obtain ⟨ds, ω1, e1, e⟩ := bnd_some e
  obtain ⟨xs, ω2, e2, e⟩ := bnd_some e
  split at e
  · obtain ⟨rfl, rfl⟩ := ret_some e
    rfl
  · cases e
end FL
end
section
set_option maxHeartbeats 4000000
/-! FL: list.index of an int, name = [.. for .. for ..]. -/
namespace FL
open PySem PySem.Spec PyProof.Rows L2
def dIndex : D → D → Option D
  | .lst ds, .int k => (intsOf ds).bind fun ns => if ns.idxOf k < ns.length then some (.int (ns.idxOf k : Nat)) else none
  | _, _ => none
theorem eqV_int (i j : Int) : eqV (.int i) (.int j) = (i == j) := rfl
theorem first_idx : ∀ {ns : List Int} {k : Int} {m : Nat} {z : Int}, m < ns.idxOf k → ns[m]? = some z → (z == k) = false
  | [], k, m, z, h, e => by simp at e
  | n :: ns, k, m, z, h, e => by
    rw [List.idxOf_cons] at h
    by_cases c : (n == k) = true
    · rw [c] at h; exact absurd h (Nat.not_lt_zero _)
    · rw [Bool.not_eq_true] at c
      rw [c] at h
      cases m with
      | zero => cases e; exact c
      | succ m => exact first_idx (ns := ns) (k := k) (m := m) (by simpa using h) e
theorem at_idx : ∀ {ns : List Int} {k : Int}, ns.idxOf k < ns.length → ns[ns.idxOf k]? = some k
  | [], k, h => by simp at h
  | n :: ns, k, h => by
    rw [List.idxOf_cons] at h ⊢
    by_cases c : (n == k) = true
    · rw [c]; rw [beq_iff_eq.mp c]; rfl
    · rw [Bool.not_eq_true] at c
      rw [c] at h ⊢
      exact at_idx (ns := ns) (k := k) (by simpa using h)
section
variable {X : Cx} {o e : Expr} {f g : EF} {apos cpos : Pos}
theorem e_index (ho : PE X o (tB X.K f)) (he : PE X e (tB X.K g)) (hs : starEach [e] X.env = (false, eval e X.env) :: starEach [] X.env := by rfl)
    (hbase : attributeBase o "index" X.env (eval o X.env) = eval o X.env := by rfl)
    (hfew : ((backTo cpos (starEach (e :: []) X.env)).all (fun x => !x.1) && (backToKw cpos (keywordEach [] X.env)).all (fun x => x.1.isSome)
      && decide ((e :: ([] : List Expr)).length + ([] : List Keyword).length + (if ([] : List Keyword).isEmpty then 0 else 1) < 30)) = true := by rfl)
    (hline : (apos.endLine == cpos.line) = true := by rfl) (hplain : (backTo cpos (starEach ([] : List Expr) X.env)).any (·.1) = false := by rfl) :
    PE X (.Call (.Attribute o "index" apos) [e] [] cpos) (tE X.K (b2 dIndex f g)) :=
  pe_weak (pe_bm PySem.F.plainAttrs_list PySem.F.slot_list_index PySem.F.type_list_index mt_index ho (pa_cons he pa_nil hs) hbase hfew hline hs hplain) fun σ H Q ⟨c, F, ρ, ω, d, ω', w, e, q⟩ => by
    obtain ⟨x, ω1, e1, a1⟩ := bnd_some e
    obtain ⟨y, ω2, e2, a2⟩ := bnd_some a1
    obtain ⟨e4, rfl⟩ := opt_some a2
    unfold dIndex at e4
    split at e4
    · rename_i ds k
      rw [Option.bind_eq_some_iff] at e4
      obtain ⟨ns, e5, e6⟩ := e4
      split at e6
      · rename_i hlt
        cases e6
        cases intsOf_eq e5
        refine ⟨c, F, ρ, ω, _, _, w, e1, fun F1 H1 v p1 r1 => ?_⟩
        obtain ⟨p, vs, rfl, h1, r⟩ := r1.lst p1.le
        refine ⟨.inl ⟨rfl, vs, .inl (.inl h1)⟩, c, F1, ρ, ω1, _, _, w.ext p1, e2, fun F2 H2 u p2 r2 => ?_⟩
        have r1' := r1.ext p2
        obtain ⟨p', vs', ep, h2, r'⟩ := r1'.lst p2.le
        cases ep
        cases r'.ints
        cases r2.int
        refine ⟨p, ns.map V.int, .int k, ns.idxOf k, .int k, rfl, rfl, .inl (.inl h2), rfl, ?_, ?_, beq_self_eq_true k, fun m z' hm hz => ?_, q F2 H2 _ (p1.trans p2) (.int _)⟩
        · rw [List.all_map, List.all_eq_true]; intro _ _; rfl
        · rw [List.getElem?_map, at_idx hlt]; rfl
        · rw [List.getElem?_map, Option.map_eq_some_iff] at hz
          obtain ⟨a, ha, rfl⟩ := hz
          exact first_idx hm ha
      · cases e6
    · cases e4
end
section
variable {X : Cx} {elt tg iter tg1 iter1 : Expr} {ifs ifs1 : List Expr} {scope : Scope} {pos : Pos} {it it1 : AF} {b b1 : GF} {tt tt1 : BF} {el : EF} {is is1 : List Nat}
theorem s_lcD2 (i : Nat) (own : List (Str × Nat)) (vs1 : List Nat) {y : Str} {py : Pos} {spos : Pos} (hN : X.N.Nodup) (hi : PI X tg iter (tI X.K it))
    (hg : ∀ (s : Shared) (H : Hp) (C : Addr) (cl : List (Str × Addr)) (fp : List Addr), PG (X.blk s H scope (compEnvC scope cl C X.env) fp) tg (tG X.K is b))
    (ht : ∀ (s : Shared) (H : Hp) (C : Addr) (cl : List (Str × Addr)) (fp : List Addr), PTs (X.blk s H scope (compEnvC scope cl C X.env) fp) ifs (tT' X.K tt))
    (hi1 : ∀ (s : Shared) (H : Hp) (C : Addr) (cl : List (Str × Addr)) (fp : List Addr), PI (X.blk s H scope (compEnvC scope cl C X.env) fp) tg1 iter1 (tI X.K it1))
    (hg1 : ∀ (s : Shared) (H : Hp) (C : Addr) (cl : List (Str × Addr)) (fp : List Addr), PG (X.blk s H scope (compEnvC scope cl C X.env) fp) tg1 (tG X.K is1 b1))
    (ht1 : ∀ (s : Shared) (H : Hp) (C : Addr) (cl : List (Str × Addr)) (fp : List Addr), PTs (X.blk s H scope (compEnvC scope cl C X.env) fp) ifs1 (tT' X.K tt1))
    (he : ∀ (s : Shared) (H : Hp) (C : Addr) (cl : List (Str × Addr)) (fp : List Addr), PE (X.blk s H scope (compEnvC scope cl C X.env) fp) elt (tE X.K el))
    (hy : X.N[i]? = some y := by rfl) (hyl : X.env.scope.names.lookup y = some .local := by rfl)
    (hsw : swapsWith (.ListComp elt [⟨tg, iter, ifs, 0⟩, ⟨tg1, iter1, ifs1, 0⟩] scope pos) (some (.Name y py)) spos.line X.env = pure true := by exact sw_true rfl rfl rfl (by decide +kernel))
    (ok : blkC X.N X.env.scope scope own = true := by kernel_rfl) (hv : ∀ i ∈ vs1, i ∈ own.map (·.2) := by decide) (hsub : ∀ j ∈ is, j ∈ own.map (·.2) := by decide) (hsub1 : ∀ j ∈ is1, j ∈ vs1 := by decide) (hc : X.calm = true := by rfl)
    (hs : ∀ x, foldedSetIterable iter X.env x = pure x := by intro _; rfl) (hs1 : ∀ env x, foldedSetIterable iter1 env x = pure x := by intro _ _; rfl) :
    PS X (.Assign [.Name y py] (.ListComp elt [⟨tg, iter, ifs, 0⟩, ⟨tg1, iter1, ifs1, 0⟩] scope pos) spos) (tS X.K (setD i (lcE2 it b tt it1 b1 tt1 el (own.map (·.2)) vs1))) :=
  s_setDA i (ps_setLc2 (own := own) (vs1 := vs1) hc hN hy hyl hsw hi (blkOk_by ok) hv hg ht hi1 hg1 ht1 he hs hs1) fun σ H Q h => lc2_core2 hsub hsub1 (tF_tE lcE2_nd h)
end
end FL
end
section
namespace K58
open PySem PySem.Spec PyProof.Rows L2 FL
def c_index_rows_1 : EF := (lcE2 (itS (vr 1)) (gN 3) yesB (itR1 (vw 2)) (gN 4) yesB (b2 dAdd (vw 3) (eTup (aC (vr 4) aN))) [3, 4] [4])
def b_index_rows_1 : SF := (seqS (setD 1 c_index_rows_1)
  (nilS [2]))
def m_index_rows : List D → M D := runS 5 1 false (seqS (setD 1 (eLst (aC (eTup aN) aN)))
  (seqS (forS (itS (vr 0)) (gN 2)
  b_index_rows_1)
  (seqS (retS (vr 1))
  (nilS []))))
def c_rises_1 : EF := (lcE (itR1 (b2 dSub (bA aLen (aC (vw 1) aN)) (cst (.int 1)))) (gN 3) (isB (b2 dLt (b2 dMul (b2 dIx (vw 1) (vw 3)) (b2 dIx (vw 0) (b2 dAdd (vw 3) (cst (.int 1))))) (b2 dMul (b2 dIx (vw 1) (b2 dAdd (vw 3) (cst (.int 1)))) (b2 dIx (vw 0) (vw 3))))) (cst (.int 1)) [3])
def m_rises : List D → M D := runS 4 2 false (seqS (setD 2 (ifE (isB (b2 dGt (b2 dIx (vw 1) (cst (.int 0))) (cst (.int 0)))) (cst (.int 1)) (cst (.int 0))))
  (seqS (retS (b2 dAdd (vw 2) (bA aLen (aC c_rises_1 aN))))
  (nilS [])))
def b_rise_numbers_1 : SF := (seqS (setD 3 (eTup (aC (vr 2) (aC (ifE (isB (b2 dGt (vw 2) (cst (.int 0)))) (cst (.int 1)) (cst (.int 0))) aN))))
  (seqS (setIA 1 (vw 3) (b2 dAdd (getE (vw 1) (vw 3) (cst (.int 0))) (cst (.int 1))))
  (nilS [2, 3])))
def b_rise_numbers_2 : SF := (seqS (setD 3 (eTup (aC (vr 2) (aC (b2 dAdd (vw 9) (ifE (isB (b2 dLt (b2 dMul (vw 6) (b2 dIxA (vw 0) (vw 4))) (b2 dMul (vw 2) (b2 dIxA (vw 0) (b2 dSub (vw 4) (cst (.int 1))))))) (cst (.int 1)) (cst (.int 0)))) aN))))
  (seqS (setIA 5 (vw 3) (b2 dAdd (getE (vw 5) (vw 3) (cst (.int 0))) (vw 10)))
  (nilS [2, 3])))
def b_rise_numbers_3 : SF := (seqS (forS (itR1 (b2 dIxA (vw 0) (vw 4))) (gN 2)
  b_rise_numbers_2)
  (nilS [2, 3, 6, 9, 10]))
def b_rise_numbers_4 : SF := (seqS (setO 5 (cst (.dic true [])))
  (frzS 1 (seqS (forS (itI (vr 1)) (gT (gsC (gT (gsC (gN 6) (gsC (gN 9) gsN))) (gsC (gN 10) gsN)))
  b_rise_numbers_3)
  (seqS (movS 1 5)
  (nilS [2, 3, 4, 5, 6, 9, 10])))))
def b_rise_numbers_5 : SF := (seqS (augIS 7 dAdd0 (vw 9) (vw 10))
  (nilS [8, 9, 10]))
def m_rise_numbers : List D → M D := runS 11 1 false (seqS (setO 1 (cst (.dic true [])))
  (seqS (forS (itR1 (b2 dIxA (vw 0) (cst (.int 0)))) (gN 2)
  b_rise_numbers_1)
  (seqS (forS (itR2 (cst (.int 1)) (bA aLenB (aC (vw 0) aN))) (gN 4)
  b_rise_numbers_4)
  (seqS (setO 7 (b2 dRep (eLst (aC (cst (.int 0)) aN)) (b2 dAdd (bA aLenB (aC (vw 0) aN)) (cst (.int 1)))))
  (frzS 1 (seqS (forS (itI (vr 1)) (gT (gsC (gT (gsC (gN 8) (gsC (gN 9) gsN))) (gsC (gN 10) gsN)))
  b_rise_numbers_5)
  (seqS (retV 7)
  (nilS []))))))))
def m__law_pick : List D → M D := runS 2 2 false (seqS (retS (b2 dIx (vw 1) (callE drawM (aC (vr 0) (aC (bA aLen (aC (vw 1) aN)) aN)))))
  (nilS []))
def c__law_eq_1 (r : List D → M D) : EF := (lcE (itR1 (bA aLen (aC (vw 1) aN))) (gN 2) (notB (truB (callE r (aC (b2 dIx (vw 0) (vw 2)) (aC (b2 dIx (vw 1) (vw 2)) aN))))) (vr 2) [2])
def m__law_eq : Nat → List D → M D
  | 0 => fun _ _ => none
  | k + 1 => runS 3 2 false (seqS (ifS (orB (truB (b1 (isiD "list") (vw 1))) (truB (b1 (isiD "tuple") (vw 1))))
  (seqS (ifS (orB (isB (b2 dNe (b1 (isiD "list") (vw 0)) (b1 (isiD "list") (vw 1)))) (isB (b2 dNe (b1 (isiD "tuple") (vw 0)) (b1 (isiD "tuple") (vw 1)))))
  (seqS (retS (cst (.bl false)))
  (nilS []))
  (nilS []))
  (seqS (ifS (isB (b2 dNe (bA aLen (aC (vw 0) aN)) (bA aLen (aC (vw 1) aN))))
  (seqS (retS (cst (.bl false)))
  (nilS []))
  (nilS []))
  (seqS (retS (b2 dEq (c__law_eq_1 (m__law_eq k)) (eLst aN)))
  (nilS []))))
  (nilS []))
  (seqS (ifS (isB (b2 dIsN (vw 1) (cst .non)))
  (seqS (retS (b2 dIsN (vw 0) (cst .non)))
  (nilS []))
  (nilS []))
  (seqS (ifS (truB (b1 (isiD "str") (vw 1)))
  (seqS (retS (andV (b1 (isiD "str") (vw 0)) (b2 dEq (vw 0) (vw 1))))
  (nilS []))
  (nilS []))
  (seqS (ifS (truB (b1 (isiD "bool") (vw 1)))
  (seqS (retS (andV (b1 (isiD "bool") (vw 0)) (b2 dEq (vw 0) (vw 1))))
  (nilS []))
  (nilS []))
  (seqS (retS (andV (b1 (isiD "int") (vw 0)) (andV (notV (b1 (isiD "bool") (vw 0))) (b2 dEq (vw 0) (vw 1)))))
  (nilS []))))))
def b__law_rises_1 : SF := (seqS (setD 2 (b2 dAdd (vw 2) (bA aInt (aC (b2 dLt (b2 dMul (b2 dIx (vw 1) (vw 3)) (b2 dIx (vw 0) (b2 dAdd (vw 3) (cst (.int 1))))) (b2 dMul (b2 dIx (vw 1) (b2 dAdd (vw 3) (cst (.int 1)))) (b2 dIx (vw 0) (vw 3)))) aN))))
  (nilS [3]))
def m__law_rises : List D → M D := runS 4 2 false (seqS (setD 2 (bA aInt (aC (b2 dGt (b2 dIx (vw 1) (cst (.int 0))) (cst (.int 0))) aN)))
  (seqS (forS (itR1 (b2 dSub (bA aLen (aC (vw 1) aN)) (cst (.int 1)))) (gN 3)
  b__law_rises_1)
  (seqS (retS (vr 2))
  (nilS []))))
def c__law_orders_1 : EF := (lcE (itR1 (b2 dAdd (vw 2) (cst (.int 1)))) (gN 5) yesB (b2 dAdd (b2 dAdd (slE dSl (vw 4) oN (oS (vw 5))) (eTup (aC (vr 2) aN))) (slE dSl (vw 4) (oS (vw 5)) oN)) [5])
def b__law_orders_1 : SF := (seqS (setD 3 (b2 dAdd (vw 3) c__law_orders_1))
  (nilS [4]))
def b__law_orders_2 : SF := (seqS (setD 3 (eLst aN))
  (seqS (forS (itS (vr 1)) (gN 4)
  b__law_orders_1)
  (seqS (setD 1 (vr 3))
  (nilS [2, 3, 4]))))
def m__law_orders : List D → M D := runS 6 1 false (seqS (setD 1 (eLst (aC (eTup aN) aN)))
  (seqS (forS (itR1 (vw 0)) (gN 2)
  b__law_orders_2)
  (seqS (retS (vr 1))
  (nilS []))))
def b_law_1 : SF := (seqS (setD 7 (b2 dAdd (cst (.int 1)) (callE drawM (aC (vr 1) (aC (cst (.int 7)) aN)))))
  (seqS (ifS (isB (b2 dLe (b2 dMul (vw 4) (vw 7)) (cst (.int 400))))
  (seqS (parS 3 4 (b2 dAdd (vw 3) (eTup (aC (vr 7) aN))) (b2 dMul (vw 4) (vw 7)))
  (nilS []))
  (nilS []))
  (nilS [5, 7])))
def c_law_1 : EF := (lcE (itR1 (vw 7)) (gN 17) yesB (b2 dAdd (vw 9) (eTup (aC (vr 17) aN))) [17])
def b_law_2 : SF := (seqS (setD 8 (b2 dAdd (vw 8) c_law_1))
  (nilS [9]))
def b_law_3 : SF := (seqS (setD 8 (eLst aN))
  (seqS (forS (itS (vr 6)) (gN 9)
  b_law_2)
  (seqS (setD 6 (vr 8))
  (nilS [7, 8, 9]))))
def b_law_4 : SF := (seqS (setD 10 (callE m__law_rises (aC (vr 3) (aC (vr 9) aN))))
  (seqS (setIS 16 (vw 10) (b2 dAdd (b2 dIx (vw 16) (vw 10)) (cst (.int 1))))
  (nilS [9, 10])))
def c_law_2 : EF := (lcE (itR2 (vw 11) (b2 dSub (bA aLen (aC (vw 16) aN)) (cst (.int 1)))) (gN 5) (isB (b2 dLt (b2 dIx (vw 16) (vw 5)) (b2 dIx (vw 16) (b2 dAdd (vw 5) (cst (.int 1)))))) (vr 5) [5])
def c_law_3 : EF := (lcE (itR1 (vw 11)) (gN 5) (isB (b2 dGt (b2 dIx (vw 16) (vw 5)) (b2 dIx (vw 16) (b2 dAdd (vw 5) (cst (.int 1)))))) (vr 5) [5])
def b_law_5 : SF := (seqS (setD 3 (eTup aN))
  (seqS (setD 4 (cst (.int 1)))
  (seqS (forS (itR1 (b2 dAdd (cst (.int 1)) (callE drawM (aC (vr 1) (aC (cst (.int 5)) aN))))) (gN 5)
  b_law_1)
  (seqS (setD 6 (eLst (aC (eTup aN) aN)))
  (seqS (forS (itS (vr 3)) (gN 7)
  b_law_3)
  (seqS (ifS (notB (truB (callE (m__law_eq 60) (aC (callE m_index_rows (aC (vr 3) aN)) (aC (vr 6) aN)))))
  (seqS (retS (cst (.bl false)))
  (nilS []))
  (nilS []))
  (seqS (setO 16 (b2 dRep (eLst (aC (cst (.int 0)) aN)) (b2 dAdd (bA aLen (aC (vw 3) aN)) (cst (.int 1)))))
  (seqS (forS (itS (vr 6)) (gN 9)
  b_law_4)
  (frzS 16 (seqS (ifS (notB (truB (callE (m__law_eq 60) (aC (callE m_rise_numbers (aC (vr 3) aN)) (aC (vr 16) aN)))))
  (seqS (retS (cst (.bl false)))
  (nilS []))
  (nilS []))
  (seqS (setD 9 (callE m__law_pick (aC (vr 1) (aC (vr 6) aN))))
  (seqS (ifS (notB (truB (callE (m__law_eq 60) (aC (callE m_rises (aC (vr 3) (aC (vr 9) aN))) (aC (callE m__law_rises (aC (vr 3) (aC (vr 9) aN))) aN)))))
  (seqS (retS (cst (.bl false)))
  (nilS []))
  (nilS []))
  (seqS (setD 11 (b2 dIndex (vw 16) (bA aMax (aC (vw 16) aN))))
  (seqS (ifS (orB (isB (b2 dNe c_law_3 (eLst aN))) (isB (b2 dNe c_law_2 (eLst aN))))
  (seqS (retS (cst (.bl false)))
  (nilS []))
  (nilS []))
  (nilS [2, 3, 4, 5, 6, 7, 8, 9, 10, 11, 16])))))))))))))))
def c_law_4 : EF := (lcE (itR1 (b2 dSub (vw 12) (cst (.int 1)))) (gN 5) (isB (b2 dGt (b2 dIx (vw 14) (vw 5)) (b2 dIx (vw 14) (b2 dAdd (vw 5) (cst (.int 1)))))) (vr 5) [5])
def b_law_6 : SF := (seqS (setD 15 (bA aLen (aC c_law_4 aN)))
  (seqS (setIS 13 (vw 15) (b2 dAdd (b2 dIx (vw 13) (vw 15)) (cst (.int 1))))
  (nilS [14, 15])))
def m_law : SF := (seqS (forS (itR1 (cst (.int 2))) (gN 2)
  b_law_5)
  (seqS (setD 12 (b2 dAdd (cst (.int 1)) (callE drawM (aC (vr 1) (aC (cst (.int 5)) aN)))))
  (seqS (setO 13 (b2 dRep (eLst (aC (cst (.int 0)) aN)) (b2 dAdd (vw 12) (cst (.int 1)))))
  (seqS (forS (itS (callE m__law_orders (aC (vr 12) aN))) (gN 14)
  b_law_6)
  (seqS (setD 16 (callE m_rise_numbers (aC (tupR2 (cst (.int 1)) (b2 dAdd (vw 12) (cst (.int 1)))) aN)))
  (frzS 16 (frzS 13 (seqS (retS (andV (callE (m__law_eq 60) (aC (vr 16) (aC (vr 13) aN))) (b2 dEq (slE dSl (vw 16) oN (oS (vw 12))) (b1 dRev (slE dSl (vw 16) oN (oS (vw 12)))))))
  (nilS [])))))))))
def m_start : FL.Env := .un :: .d .tok :: List.replicate 16 .un
end K58
end
section
/-! Hall rows below a bound, counted by the rises of index rows. -/
namespace P59
def sm (n : Nat) (f : Nat → Int) : Int := ((List.range n).map f).sum
theorem sm_zero (f : Nat → Int) : sm 0 f = 0 := rfl
theorem sm_succ (n : Nat) (f : Nat → Int) : sm (n + 1) f = sm n f + f n := by
  unfold sm
  rw [List.range_succ, List.map_append, List.sum_append]
  simp
theorem sm_congr {n : Nat} {f g : Nat → Int} (h : ∀ i, i < n → f i = g i) : sm n f = sm n g := by
  unfold sm
  congr 1
  exact List.map_congr_left fun i hi => h i (List.mem_range.mp hi)
theorem sm_add (n m : Nat) (f : Nat → Int) : sm (n + m) f = sm n f + sm m fun j => f (n + j) := by
  induction m with
  | zero => simp [sm_zero]
  | succ m ih => rw [← Nat.add_assoc, sm_succ, sm_succ, ih]; omega
theorem sm_plus (n : Nat) (f g : Nat → Int) : sm n (fun i => f i + g i) = sm n f + sm n g := by
  induction n with
  | zero => rfl
  | succ n ih => rw [sm_succ, sm_succ, sm_succ, ih]; omega
theorem sm_nul (n : Nat) : sm n (fun _ => 0) = 0 := by
  induction n with
  | zero => rfl
  | succ n ih => rw [sm_succ, ih]; rfl
theorem sm_first (n : Nat) (f : Nat → Int) : sm (n + 1) f = f 0 + sm n fun j => f (j + 1) := by
  rw [Nat.add_comm n 1, sm_add]
  rw [show sm 1 f = f 0 by rw [sm_succ, sm_zero]; omega]
  congr 1
  exact sm_congr fun i _ => by rw [Nat.add_comm]
theorem sm_rev (n : Nat) (f : Nat → Int) : sm n f = sm n fun i => f (n - 1 - i) := by
  induction n generalizing f with
  | zero => rfl
  | succ n ih =>
    rw [sm_succ, sm_first, show f (n + 1 - 1 - 0) = f n by congr 1, ih]
    rw [Int.add_comm]
    congr 1
    exact sm_congr fun i hi => by congr 1; omega
theorem sm_swap (n m : Nat) (f : Nat → Nat → Int) : sm n (fun i => sm m fun j => f i j) = sm m fun j => sm n fun i => f i j := by
  induction n with
  | zero => rw [sm_zero]; exact (sm_nul m).symm
  | succ n ih =>
    rw [sm_succ, ih, ← sm_plus]
    exact sm_congr fun j _ => (sm_succ n fun i => f i j).symm
theorem sm_cut {b : Nat} (g : Nat → Int) : ∀ d, sm (b + 1 + d) (fun i => if i ≤ b then g i else 0) = sm (b + 1) g
  | 0 => sm_congr fun i hi => if_pos (by omega)
  | d + 1 => by rw [← Nat.add_assoc, sm_succ, sm_cut g d, if_neg (by omega), Int.add_zero]
/-- all numbers up to t steps, by the least step above -/
theorem sm_blocks {s : Nat} (hs : 0 < s) (g : Nat → Int) : ∀ t, sm (t * s + 1) g = sm (t + 1) fun q => sm s fun r => if r ≤ q * s then g (q * s - r) else 0
  | 0 => by
    obtain ⟨k, rfl⟩ : ∃ k, s = k + 1 := ⟨s - 1, by omega⟩
    rw [Nat.zero_mul, Nat.zero_add, sm_succ, sm_zero, sm_succ, sm_zero, sm_first, Nat.zero_mul, if_pos (Nat.le_refl _)]
    rw [show (sm k fun j => if j + 1 ≤ 0 then g (0 - (j + 1)) else 0) = 0 by
      exact (sm_congr fun i _ => if_neg (fun z : i + 1 ≤ 0 => by omega)).trans (sm_nul k)]
    rw [show (0 : Nat) - 0 = 0 from rfl]
    omega
  | t + 1 => by
    rw [sm_succ (t + 1), ← sm_blocks hs g t, Nat.succ_mul, show t * s + s + 1 = (t * s + 1) + s by omega, sm_add]
    congr 1
    rw [sm_rev]
    exact sm_congr fun r hr => by rw [if_pos (by omega)]; congr 1; omega
/-- multisets of j of v + 1 things -/
def hN : Nat → Nat → Nat
  | 0, _ => 1
  | j + 1, 0 => hN j 0
  | j + 1, v + 1 => hN (j + 1) v + hN j (v + 1)
theorem hN_0 : ∀ j, hN j 0 = 1
  | 0 => by rw [hN]
  | j + 1 => by rw [hN, hN_0 j]
theorem hN_1 : ∀ j, hN j 1 = j + 1
  | 0 => by rw [hN]
  | j + 1 => by rw [hN, hN_0, hN_1 j]; omega
theorem hN_S (j v : Nat) : hN (j + 1) (v + 1) = hN (j + 1) v + hN j (v + 1) := by rw [hN]
theorem hN_mul : ∀ k a, (k + 1) * hN (k + 1) a = (a + 1) * hN k (a + 1)
  | k, 0 => by rw [hN_0, hN_1]; omega
  | 0, a + 1 => by
    have ih := hN_mul 0 a
    have e1 := hN_S 0 a
    have z : ∀ v, hN 0 v = 1 := fun _ => by rw [hN]
    rw [z] at ih e1
    rw [z, e1]
    omega
  | k + 1, a + 1 => by
    have ih := hN_mul (k + 1) a
    have ih2 := hN_mul k (a + 1)
    have e1 := hN_S (k + 1) a
    have e2 := hN_S k (a + 1)
    rw [e1, e2, Nat.mul_add, ih, Nat.mul_add, ← ih2, ← Nat.add_mul, ← Nat.add_mul]
    congr 1
    omega
def H (j : Nat) (v : Int) : Int := if 0 ≤ v then (hN j v.toNat : Int) else 0
theorem H_neg {j : Nat} {v : Int} (h : v < 0) : H j v = 0 := if_neg (by omega)
theorem H_nat (j v : Nat) : H j (v : Int) = hN j v := by
  unfold H
  rw [if_pos (by omega), Int.toNat_natCast]
theorem H_sum (l m : Nat) : ∀ b : Nat, sm (b + 1) (fun i => H l ((i : Int) - m)) = H (l + 1) ((b : Int) - m)
  | 0 => by
    rw [sm_succ, sm_zero, Int.zero_add]
    by_cases h : m = 0
    · subst h
      have := H_nat l 0
      have h2 := H_nat (l + 1) 0
      rw [hN_0] at this h2
      exact this.trans h2.symm
    · rw [H_neg (by omega), H_neg (by omega)]
  | b + 1 => by
    rw [sm_succ, H_sum l m b]
    by_cases h : b + 1 < m
    · rw [H_neg (by omega), H_neg (by omega), H_neg (by omega)]; rfl
    · by_cases h2 : b + 1 = m
      · rw [H_neg (by omega), show ((b + 1 : Nat) : Int) - (m : Int) = ((0 : Nat) : Int) by omega, H_nat, H_nat, hN_0, hN_0]; rfl
      · obtain ⟨v, rfl⟩ : ∃ v, b = m + v := ⟨b - m, by omega⟩
        rw [show ((m + v : Nat) : Int) - (m : Int) = ((v : Nat) : Int) by omega, show ((m + v + 1 : Nat) : Int) - (m : Int) = ((v + 1 : Nat) : Int) by omega, H_nat, H_nat, H_nat, hN_S]
        omega
theorem H_up (l m t a : Nat) : sm (t + 1) (fun q => if a ≤ q then H l ((t : Int) - q - m) else 0) = H (l + 1) ((t : Int) - a - m) := by
  by_cases h : a ≤ t
  · rw [sm_rev]
    have e : sm (t + 1) (fun i => if a ≤ t + 1 - 1 - i then H l ((t : Int) - ((t + 1 - 1 - i : Nat) : Int) - m) else 0) = sm (t - a + 1 + a) (fun i => if i ≤ t - a then H l ((i : Int) - m) else 0) := by
      rw [show t - a + 1 + a = t + 1 by omega]
      refine sm_congr fun i hi => ?_
      by_cases c : i ≤ t - a
      · rw [if_pos (by omega), if_pos c]; congr 1; omega
      · rw [if_neg (by omega), if_neg c]
    rw [e, sm_cut, H_sum]
    congr 1
    omega
  · rw [H_neg (by omega)]
    exact (sm_congr fun i hi => if_neg (by omega)).trans (sm_nul (t + 1))
/-- how many rows go on from x, each below t steps -/
def F (t : Nat) : Nat → List Nat → Nat → Int
  | _, [], _ => 1
  | s, s' :: r, x => sm (t * s' + 1) fun y => if x * s' ≤ y * s then F t s' r y else 0
def asc (s s' r r' : Nat) : Nat := if r * s' < r' * s then 1 else 0
/-- index rows going on from r, with m rises so far -/
def A (fin : Nat → Int) : Nat → List Nat → Nat → Nat → Int
  | _, [], _, m => fin m
  | s, s' :: rest, r, m => sm s' fun r' => A fin s' rest r' (m + asc s s' r r')
theorem A_shift (m0 : Nat) : ∀ (rest : List Nat) (fin : Nat → Int) (s r m : Nat), A fin s rest r (m0 + m) = A (fun m => fin (m0 + m)) s rest r m
  | [], _, _, _, _ => rfl
  | s' :: rest, fin, s, r, m => by
    rw [A, A]
    exact sm_congr fun r' _ => by rw [Nat.add_assoc, A_shift m0 rest]
theorem A_congr {f g : Nat → Int} (h : ∀ m, f m = g m) (s : Nat) (rest : List Nat) (r m : Nat) : A f s rest r m = A g s rest r m := by rw [show f = g from funext h]
theorem A_nul : ∀ (rest : List Nat) (s r m : Nat), A (fun _ => 0) s rest r m = 0
  | [], _, _, _ => rfl
  | s' :: rest, s, r, m => by
    rw [A]
    exact (sm_congr fun r' _ => A_nul rest _ _ _).trans (sm_nul s')
theorem A_lin (n : Nat) : ∀ (rest : List Nat) (f : Nat → Nat → Int) (s r m : Nat), A (fun m => sm n fun q => f q m) s rest r m = sm n fun q => A (f q) s rest r m
  | [], _, _, _, _ => rfl
  | s' :: rest, f, s, r, m => by
    rw [A, show (sm n fun q => A (f q) s (s' :: rest) r m) = sm n fun q => sm s' fun r' => A (f q) s' rest r' (m + asc s s' r r') from rfl, sm_swap]
    exact sm_congr fun r' _ => A_lin n rest f _ _ _
theorem A_if (c : Bool) (f : Nat → Int) (s : Nat) (rest : List Nat) (r m : Nat) : A (fun m => if c = true then f m else 0) s rest r m = if c = true then A f s rest r m else 0 := by
  cases c
  · simp only [Bool.false_eq_true, if_false]
    exact A_nul rest s r m
  · simp only [if_true]
theorem cond {s s' x r q r' q' : Nat} (hs : 0 < s) (hs' : 0 < s') (hr : r < s) (hr' : r' < s') (hx : x + r = q * s) (hy : r' ≤ q' * s') : x * s' ≤ (q' * s' - r') * s ↔ q + asc s s' r r' ≤ q' := by
  obtain ⟨y, hy⟩ : ∃ y, y + r' = q' * s' := ⟨q' * s' - r', by omega⟩
  rw [show q' * s' - r' = y by omega]
  have a1 : x * s' + r * s' = q * (s * s') := by rw [← Nat.add_mul, hx, Nat.mul_assoc]
  have a2 : y * s + r' * s = q' * (s * s') := by rw [← Nat.add_mul, hy, Nat.mul_assoc, Nat.mul_comm s' s]
  have a3 : r * s' < s * s' := Nat.mul_lt_mul_of_pos_right hr hs'
  have a4 : r' * s < s * s' := by rw [Nat.mul_comm s s']; exact Nat.mul_lt_mul_of_pos_right hr' hs
  unfold asc
  generalize x * s' = X at *
  generalize y * s = Y at *
  generalize r * s' = R at *
  generalize r' * s = R' at *
  by_cases c : R < R'
  · rw [if_pos c]
    constructor
    · intro h
      rcases Nat.lt_or_ge q q' with h2 | h2
      · exact h2
      · have := Nat.mul_le_mul_right (s * s') h2
        omega
    · intro h
      have := Nat.mul_le_mul_right (s * s') h
      rw [Nat.add_mul, Nat.one_mul] at this
      omega
  · rw [if_neg c]
    constructor
    · intro h
      rcases Nat.lt_or_ge q' q with h2 | h2
      · have := Nat.mul_le_mul_right (s * s') (show q' + 1 ≤ q from h2)
        rw [Nat.add_mul, Nat.one_mul] at this
        omega
      · exact h2
    · intro h
      have := Nat.mul_le_mul_right (s * s') (show q ≤ q' from h)
      omega
theorem F_A (t : Nat) : ∀ (rest : List Nat), (∀ s ∈ rest, 0 < s) → ∀ (s x r q : Nat), 0 < s → r < s → x + r = q * s → q ≤ t → F t s rest x = A (fun m => H rest.length ((t : Int) - q - m)) s rest r 0
  | [], _, s, x, r, q, hs, hr, hx, hq => by
    rw [F, A, List.length_nil, show (t : Int) - (q : Int) - ((0 : Nat) : Int) = ((t - q : Nat) : Int) by omega, H_nat, hN]; rfl
  | s' :: rest, hp, s, x, r, q, hs, hr, hx, hq => by
    have hs' : 0 < s' := hp s' (by simp)
    have ih := F_A t rest fun u hu => hp u (by simp [hu])
    rw [F, sm_blocks hs', A, List.length_cons]
    have e : sm (t + 1) (fun q' => sm s' fun r' => if r' ≤ q' * s' then (if x * s' ≤ (q' * s' - r') * s then F t s' rest (q' * s' - r') else 0) else 0) = sm (t + 1) fun q' => sm s' fun r' => if q + asc s s' r r' ≤ q' then A (fun m => H rest.length ((t : Int) - q' - m)) s' rest r' 0 else 0 := by
      refine sm_congr fun q' hq' => sm_congr fun r' hr' => ?_
      by_cases c : r' ≤ q' * s'
      · rw [if_pos c]
        have hc := cond (x := x) hs hs' hr hr' hx c
        by_cases d : q + asc s s' r r' ≤ q'
        · rw [if_pos (hc.mpr d), if_pos d]
          exact ih s' _ r' q' hs' hr' (by omega) (by omega)
        · rw [if_neg (fun z => d (hc.mp z)), if_neg d]
      · rw [if_neg c]
        have hq0 : q' = 0 := by
          rcases Nat.eq_zero_or_pos q' with h | h
          · exact h
          · have := Nat.le_mul_of_pos_left s' h
            omega
        subst hq0
        rw [if_neg]
        intro h
        have h0 : q = 0 := by omega
        subst h0
        have hr0 : r = 0 := by omega
        subst hr0
        have : 0 < r' * s := Nat.mul_pos (by omega) hs
        unfold asc at h
        rw [if_pos (by omega)] at h
        omega
    rw [e, sm_swap]
    refine sm_congr fun r' hr' => ?_
    have e2 : (sm (t + 1) fun q' => if q + asc s s' r r' ≤ q' then A (fun m => H rest.length ((t : Int) - q' - m)) s' rest r' 0 else 0) = sm (t + 1) fun q' => A (fun m => if decide (q + asc s s' r r' ≤ q') = true then H rest.length ((t : Int) - q' - m) else 0) s' rest r' 0 := sm_congr fun q' _ => by
      rw [A_if]
      simp only [decide_eq_true_eq]
    rw [e2, ← A_lin, Nat.zero_add, ← Nat.add_zero (asc s s' r r'), A_shift, Nat.add_zero]
    refine A_congr (fun m => ?_) _ _ _ _
    simp only [decide_eq_true_eq]
    rw [H_up]
    congr 1
    omega
/-- the whole count, both ways -/
theorem count_rises (t : Nat) {steps : List Nat} (h : ∀ s ∈ steps, 0 < s) : F t 1 steps 0 = A (fun m => H steps.length ((t : Int) - m)) 1 steps 0 0 := by
  rw [F_A t steps h 1 0 0 0 (by decide) (by decide) rfl (Nat.zero_le _)]
  exact A_congr (fun m => by congr 1) _ _ _ _
/-- index rows are as many as the product of the steps -/
theorem A_one : ∀ (rest : List Nat) (s r m : Nat), A (fun _ => 1) s rest r m = ((rest.foldl (· * ·) 1 : Nat) : Int) := by
  have key : ∀ (l : List Nat) (a : Nat), l.foldl (· * ·) a = a * l.foldl (· * ·) 1 := by
    intro l
    induction l with
    | nil => intro a; simp
    | cons x l ih => intro a; rw [List.foldl_cons, ih, List.foldl_cons, ih (1 * x), Nat.one_mul, Nat.mul_assoc]
  have cst : ∀ (n : Nat) (c : Int), sm n (fun _ => c) = n * c := by
    intro n c
    induction n with
    | zero => rw [sm_zero]; simp
    | succ n ih => rw [sm_succ, ih, Int.natCast_succ, Int.add_mul, Int.one_mul]
  intro rest
  induction rest with
  | nil => intro _ _ _; rfl
  | cons s' rest ih =>
    intro s r m
    rw [A, sm_congr fun r' _ => ih s' r' _, cst, List.foldl_cons, key rest (1 * s'), Nat.one_mul, Int.natCast_mul]
/-- equal steps -/
theorem F_same (t c : Nat) (hc : 0 < c) : ∀ (n x : Nat), x ≤ t * c → F t c (List.replicate n c) x = H n (((t * c : Nat) : Int) - x)
  | 0, x, hx => by
    rw [List.replicate_zero, F, show ((t * c : Nat) : Int) - (x : Int) = ((t * c - x : Nat) : Int) by omega, H_nat, hN]; rfl
  | n + 1, x, hx => by
    rw [List.replicate_succ, F]
    have e : sm (t * c + 1) (fun y => if x * c ≤ y * c then F t c (List.replicate n c) y else 0) = sm (t * c + 1) fun y => if x ≤ y then H n (((t * c : Nat) : Int) - y - ((0 : Nat) : Int)) else 0 := by
      refine sm_congr fun y hy => ?_
      by_cases h : x ≤ y
      · rw [if_pos h, if_pos (Nat.mul_le_mul_right c h), F_same t c hc n y (by omega)]
        congr 1
        omega
      · rw [if_neg h, if_neg (fun z => h (Nat.le_of_mul_le_mul_right z hc))]
    rw [e, H_up]
    congr 1
    omega
theorem F_const (t c : Nat) (hc : 0 < c) (n : Nat) : F t 1 (List.replicate n c) 0 = H n ((t * c : Nat) : Int) := by
  cases n with
  | zero => rw [List.replicate_zero, F, H_nat, hN]; rfl
  | succ n =>
    rw [List.replicate_succ, F]
    have e : sm (t * c + 1) (fun y => if 0 * c ≤ y * 1 then F t c (List.replicate n c) y else 0) = sm (t * c + 1) fun y => if 0 ≤ y then H n (((t * c : Nat) : Int) - y - ((0 : Nat) : Int)) else 0 := by
      refine sm_congr fun y hy => ?_
      rw [if_pos (by omega), if_pos (Nat.zero_le _), F_same t c hc n y (by omega)]
      congr 1
      omega
    rw [e, H_up]
    congr 1
end P59
end
section
set_option maxHeartbeats 1000000
/-! numbers of rises: packed, and by the kernel one rising and then falling -/
namespace P58
open P59
def sumW (s s' x : Nat) : Nat → List Nat → Nat
  | _, [] => 0
  | r, a :: w => (bif Nat.blt (r * s') (x * s) then 1024 * a else a) + sumW s s' x (r + 1) w
def nxw (s s' : Nat) (w : List Nat) : List Nat := (List.range s').map fun x => sumW s s' x 0 w
def digs : Nat → Nat → List Nat
  | 0, _ => []
  | k + 1, N => N % 1024 :: digs k (N / 1024)
def dn : Nat → List Nat → Bool
  | _, [] => true
  | a, b :: l => bif Nat.ble b a then dn b l else false
def up : Nat → List Nat → Bool
  | _, [] => true
  | a, b :: l => bif Nat.ble a b then up b l else dn a (b :: l)
def uniL : List Nat → Bool
  | [] => true
  | a :: l => up a l
def uni (n N : Nat) : Bool := uniL (digs (n + 1) N)
theorem dn_ok : ∀ (l : List Nat) (a : Nat), dn a l = true → ∀ k, k + 1 < (a :: l).length → (a :: l).getD (k + 1) 0 ≤ (a :: l).getD k 0
  | [], a, _, k, h => absurd h (by simp)
  | b :: l, a, e, k, h => by
    rw [dn] at e
    cases hb : Nat.ble b a with
    | false => rw [hb] at e; cases e
    | true =>
      rw [hb, cond_true] at e
      cases k with
      | zero => exact Nat.le_of_ble_eq_true hb
      | succ k => exact dn_ok l b e k (by simpa using h)
theorem up_ok : ∀ (l : List Nat) (a : Nat), up a l = true → ∃ p, p < (a :: l).length ∧ (∀ k, k < p → (a :: l).getD k 0 ≤ (a :: l).getD (k + 1) 0) ∧ ∀ k, p ≤ k → k + 1 < (a :: l).length → (a :: l).getD (k + 1) 0 ≤ (a :: l).getD k 0
  | [], a, _ => ⟨0, by simp, fun k h => by omega, fun k _ h => absurd h (by simp)⟩
  | b :: l, a, e => by
    rw [up] at e
    cases hb : Nat.ble a b with
    | false =>
      rw [hb, cond_false] at e
      exact ⟨0, by simp, fun k h => by omega, fun k _ h => dn_ok (b :: l) a e k h⟩
    | true =>
      rw [hb, cond_true] at e
      obtain ⟨p, h1, h2, h3⟩ := up_ok l b e
      refine ⟨p + 1, by simpa using h1, fun k hk => ?_, fun k hk hl => ?_⟩
      · cases k with
        | zero => exact Nat.le_of_ble_eq_true hb
        | succ k => exact h2 k (by omega)
      · cases k with
        | zero => omega
        | succ k => exact h3 k (by omega) (by simpa using hl)
def wk : Nat → Nat → List Nat → Nat → Nat → Bool
  | 0, _, w, _, n => uni n w.sum
  | d + 1, s, w, p, n => uni n w.sum && (List.range 7).all fun k => bif Nat.ble (p * (k + 1)) 400 then wk d (k + 1) (nxw s (k + 1) w) (p * (k + 1)) (n + 1) else true
theorem wk_all : wk 5 1 [1] 1 0 = true := by decide +kernel
def wf : Nat → List Nat → List Nat → List Nat
  | _, w, [] => w
  | s, w, x :: rest => wf x (nxw s x w) rest
theorem prod_pos : ∀ (rest : List Nat) (p : Nat), (∀ x ∈ rest, 1 ≤ x) → p ≤ rest.foldl (· * ·) p
  | [], p, _ => Nat.le_refl _
  | x :: rest, p, h => by
    rw [List.foldl_cons]
    exact Nat.le_trans (Nat.le_mul_of_pos_right p (h x (by simp))) (prod_pos rest _ fun y hy => h y (by simp [hy]))
theorem wk_ok : ∀ (rest : List Nat) (d s : Nat) (w : List Nat) (p n : Nat), wk d s w p n = true → rest.length ≤ d → (∀ x ∈ rest, 1 ≤ x ∧ x ≤ 7) → rest.foldl (· * ·) p ≤ 400 → uni (n + rest.length) (wf s w rest).sum = true
  | [], 0, s, w, p, n, h, _, _, _ => h
  | [], d + 1, s, w, p, n, h, _, _, _ => by
    rw [wk, Bool.and_eq_true] at h
    exact h.1
  | x :: rest, 0, s, w, p, n, h, hl, _, _ => absurd hl (by simp)
  | x :: rest, d + 1, s, w, p, n, h, hl, hx, hp => by
    rw [wk, Bool.and_eq_true] at h
    obtain ⟨h1, h2⟩ := hx x (by simp)
    have h3 := List.all_eq_true.mp h.2 (x - 1) (List.mem_range.mpr (by omega))
    rw [Nat.sub_add_cancel h1] at h3
    rw [List.foldl_cons] at hp
    have hle : p * x ≤ 400 := Nat.le_trans (prod_pos rest _ fun y hy => (hx y (by simp [hy])).1) hp
    rw [Nat.ble_eq_true_of_le hle, cond_true] at h3
    have := wk_ok rest d x (nxw s x w) (p * x) (n + 1) h3 (by simpa using hl) (fun y hy => hx y (by simp [hy])) hp
    rw [wf, List.length_cons, show n + (rest.length + 1) = n + 1 + rest.length by omega]
    exact this
def cB (m : Nat) : Int := ((1024 ^ m : Nat) : Int)
theorem cB_add (a b : Nat) : cB (a + b) = cB a * cB b := by unfold cB; rw [Nat.pow_add, Int.natCast_mul]
theorem sm_mulL (n : Nat) (c : Int) (f : Nat → Int) : sm n (fun i => c * f i) = c * sm n f := by
  induction n with
  | zero => rw [sm_zero, sm_zero, Int.mul_zero]
  | succ n ih => rw [sm_succ, sm_succ, Int.mul_add, ih]
theorem A_up : ∀ (rest : List Nat) (s r m : Nat), A cB s rest r m = cB m * A cB s rest r 0
  | [], s, r, m => by
    show cB m = cB m * cB 0
    rw [show cB 0 = 1 from rfl, Int.mul_one]
  | s' :: rest, s, r, m => by
    rw [A, A, ← sm_mulL]
    refine sm_congr fun x _ => ?_
    rw [A_up rest s' x (m + _), A_up rest s' x (0 + _), cB_add, Nat.zero_add, Int.mul_assoc]
theorem sumW_eq (s s' x : Nat) : ∀ (w : List Nat) (r : Nat), ((sumW s s' x r w : Nat) : Int) = sm w.length fun i => (w.getD i 0 : Nat) * cB (asc s s' (r + i) x)
  | [], r => rfl
  | a :: w, r => by
    rw [sumW, Int.natCast_add, sumW_eq s s' x w (r + 1), List.length_cons, sm_first]
    congr 1
    · rw [Nat.add_zero, List.getD_cons_zero]
      unfold asc
      by_cases h : r * s' < x * s
      · rw [if_pos h, show Nat.blt (r * s') (x * s) = true from Nat.blt_eq.mpr h, cond_true, Int.natCast_mul, Int.mul_comm]; rfl
      · rw [if_neg h, show Nat.blt (r * s') (x * s) = false from by rw [← Bool.not_eq_true, Nat.blt_eq]; exact h, cond_false, show cB 0 = 1 from rfl, Int.mul_one]
    · refine sm_congr fun i _ => ?_
      rw [List.getD_cons_succ, show r + 1 + i = r + (i + 1) by omega]
theorem nxw_len (s s' : Nat) (w : List Nat) : (nxw s s' w).length = s' := by unfold nxw; simp
theorem nxw_get {s s' x : Nat} {w : List Nat} (h : x < s') : (nxw s s' w).getD x 0 = sumW s s' x 0 w := by
  unfold nxw
  rw [List.getD_eq_getElem?_getD, List.getElem?_map, List.getElem?_range h]; rfl
theorem inv (c : Nat → Int) (hc : c = cB) : ∀ (rest : List Nat) (s : Nat) (w : List Nat), w.length = s → ((wf s w rest).sum : Int) = sm s fun r => (w.getD r 0 : Nat) * A cB s rest r 0
  | [], s, w, h => by
    show ((w.sum : Nat) : Int) = sm s fun r => (w.getD r 0 : Nat) * cB 0
    subst h
    clear hc
    induction w with
    | nil => rfl
    | cons a w ih =>
      rw [List.sum_cons, Int.natCast_add, List.length_cons, sm_first, ih, List.getD_cons_zero, show cB 0 = 1 from rfl, Int.mul_one]
      congr 1
  | s' :: rest, s, w, h => by
    rw [wf, inv c hc rest s' (nxw s s' w) (nxw_len s s' w)]
    rw [sm_congr (g := fun x => sm s fun r => (w.getD r 0 : Nat) * (cB (asc s s' r x) * A cB s' rest x 0)) fun x hx => by
      rw [nxw_get hx, sumW_eq, h, Int.mul_comm, ← sm_mulL]
      refine sm_congr fun r _ => ?_
      rw [Nat.zero_add, Int.mul_comm (A _ _ _ _ _), Int.mul_assoc], sm_swap]
    refine sm_congr fun r _ => ?_
    rw [sm_mulL, A]
    congr 1
    refine sm_congr fun x _ => ?_
    rw [A_up rest s' x (0 + _), Nat.zero_add]
theorem total (S : List Nat) : ((wf 1 [1] S).sum : Int) = A cB 1 S 0 0 := by
  rw [inv cB rfl S 1 [1] rfl, sm_succ, sm_zero, Int.zero_add]
  show ((1 : Nat) : Int) * _ = _
  rw [show ((1 : Nat) : Int) = 1 from rfl, Int.one_mul]
theorem digs_eq : ∀ (n : Nat) (f : Nat → Nat) (N : Nat), (∀ k, k < n → f k < 1024) → (N : Int) = sm n (fun k => (f k : Int) * cB k) → digs n N = (List.range n).map f
  | 0, _, _, _, _ => rfl
  | n + 1, f, N, hf, h => by
    rw [sm_first] at h
    have e : (sm n fun k => ((f (k + 1) : Nat) : Int) * cB (k + 1)) = 1024 * sm n fun k => ((f (k + 1) : Nat) : Int) * cB k := by
      rw [← sm_mulL]
      refine sm_congr fun k _ => ?_
      rw [cB_add, show cB 1 = 1024 from rfl, ← Int.mul_assoc, Int.mul_comm]
    rw [e, show cB 0 = 1 from rfl, Int.mul_one] at h
    have h0 := hf 0 (by omega)
    have h1 : N % 1024 = f 0 := by omega
    have h2 : ((N / 1024 : Nat) : Int) = sm n fun k => ((f (k + 1) : Nat) : Int) * cB k := by omega
    rw [digs, h1, digs_eq n (fun k => f (k + 1)) (N / 1024) (fun k hk => hf (k + 1) (by omega)) h2, List.range_succ_eq_map, List.map_cons, List.map_map]; rfl
/-- told by steps: one rising, then falling -/
theorem uni_ok {S : List Nat} {f : Nat → Nat} (hl : S.length ≤ 5) (hx : ∀ x ∈ S, 1 ≤ x ∧ x ≤ 7) (hp : S.foldl (· * ·) 1 ≤ 400) (hf : ∀ k, k < S.length + 1 → f k < 1024) (h : A cB 1 S 0 0 = sm (S.length + 1) fun k => (f k : Int) * cB k) :
    ∃ p, p < S.length + 1 ∧ (∀ k, k < p → f k ≤ f (k + 1)) ∧ ∀ k, p ≤ k → k + 1 < S.length + 1 → f (k + 1) ≤ f k := by
  have h1 := wk_ok S 5 1 [1] 1 0 wk_all hl hx hp
  rw [Nat.zero_add] at h1
  unfold uni at h1
  rw [digs_eq (S.length + 1) f _ hf (by rw [total, h])] at h1
  have hg : ∀ k, k < S.length + 1 → ((List.range (S.length + 1)).map f).getD k 0 = f k := fun k hk => by
    rw [List.getD_eq_getElem?_getD, List.getElem?_map, List.getElem?_range hk]; rfl
  have hlen : ((List.range (S.length + 1)).map f).length = S.length + 1 := by simp
  cases e : (List.range (S.length + 1)).map f with
  | nil => rw [e] at hlen; cases hlen
  | cons a l =>
    rw [e] at h1 hg hlen
    obtain ⟨p, h2, h3, h4⟩ := up_ok l a h1
    rw [hlen] at h2 h4
    refine ⟨p, h2, fun k hk => ?_, fun k hk hk2 => ?_⟩
    · have := h3 k hk
      rw [hg k (by omega), hg (k + 1) (by omega)] at this; exact this
    · have := h4 k hk hk2
      rw [hg k (by omega), hg (k + 1) hk2] at this; exact this
end P58
end
section
namespace K59
open PySem PySem.Spec PyProof.Rows L2 FL
def b_rise_numbers_1 : SF := (seqS (setD 3 (eTup (aC (vr 2) (aC (ifE (isB (b2 dGt (vw 2) (cst (.int 0)))) (cst (.int 1)) (cst (.int 0))) aN))))
  (seqS (setIA 1 (vw 3) (b2 dAdd (getE (vw 1) (vw 3) (cst (.int 0))) (cst (.int 1))))
  (nilS [2, 3])))
def b_rise_numbers_2 : SF := (seqS (setD 3 (eTup (aC (vr 2) (aC (b2 dAdd (vw 9) (ifE (isB (b2 dLt (b2 dMul (vw 6) (b2 dIxA (vw 0) (vw 4))) (b2 dMul (vw 2) (b2 dIxA (vw 0) (b2 dSub (vw 4) (cst (.int 1))))))) (cst (.int 1)) (cst (.int 0)))) aN))))
  (seqS (setIA 5 (vw 3) (b2 dAdd (getE (vw 5) (vw 3) (cst (.int 0))) (vw 10)))
  (nilS [2, 3])))
def b_rise_numbers_3 : SF := (seqS (forS (itR1 (b2 dIxA (vw 0) (vw 4))) (gN 2)
  b_rise_numbers_2)
  (nilS [2, 3, 6, 9, 10]))
def b_rise_numbers_4 : SF := (seqS (setO 5 (cst (.dic true [])))
  (frzS 1 (seqS (forS (itI (vr 1)) (gT (gsC (gT (gsC (gN 6) (gsC (gN 9) gsN))) (gsC (gN 10) gsN)))
  b_rise_numbers_3)
  (seqS (movS 1 5)
  (nilS [2, 3, 4, 5, 6, 9, 10])))))
def b_rise_numbers_5 : SF := (seqS (augIS 7 dAdd0 (vw 9) (vw 10))
  (nilS [8, 9, 10]))
def m_rise_numbers : List D → M D := runS 11 1 false (seqS (setO 1 (cst (.dic true [])))
  (seqS (forS (itR1 (b2 dIxA (vw 0) (cst (.int 0)))) (gN 2)
  b_rise_numbers_1)
  (seqS (forS (itR2 (cst (.int 1)) (bA aLenB (aC (vw 0) aN))) (gN 4)
  b_rise_numbers_4)
  (seqS (setO 7 (b2 dRep (eLst (aC (cst (.int 0)) aN)) (b2 dAdd (bA aLenB (aC (vw 0) aN)) (cst (.int 1)))))
  (frzS 1 (seqS (forS (itI (vr 1)) (gT (gsC (gT (gsC (gN 8) (gsC (gN 9) gsN))) (gsC (gN 10) gsN)))
  b_rise_numbers_5)
  (seqS (retV 7)
  (nilS []))))))))
def b_choose_1 : SF := (seqS (setD 2 (b2 dDiv (b2 dMul (vw 2) (b2 dSub (vw 0) (vw 3))) (b2 dAdd (vw 3) (cst (.int 1)))))
  (nilS [3]))
def m_choose : List D → M D := runS 4 2 false (seqS (ifS (notB (isB (chain (fun i j => decide (i ≤ j)) (fun i j => decide (i ≤ j)) (cst (.int 0)) (vw 1) (vw 0))))
  (seqS (retS (cst (.int 0)))
  (nilS []))
  (nilS []))
  (seqS (setD 2 (cst (.int 1)))
  (seqS (forS (itR1 (vw 1)) (gN 3)
  b_choose_1)
  (seqS (retS (vr 2))
  (nilS [])))))
def c_count_by_rises_1 : EF := (lcE (itEn (callE m_rise_numbers (aC (vr 0) aN))) (gT (gsC (gN 3) (gsC (gN 4) gsN))) yesB (b2 dMul (vw 4) (callE m_choose (aC (b2 dSub (b2 dAdd (vw 1) (vw 2)) (vw 3)) (aC (vr 2) aN)))) [3, 4])
def m_count_by_rises : List D → M D := runS 5 2 false (seqS (setD 2 (bA aLen (aC (vw 0) aN)))
  (seqS (retS (bA aSum (aC c_count_by_rises_1 aN)))
  (nilS [])))
def m_least_next : List D → M D := runS 3 3 false (seqS (retS (b1 dNeg (b2 dDiv (b2 dMul (b1 dNeg (vw 2)) (b2 dIx (vw 0) (vw 1))) (b2 dIx (vw 0) (b2 dSub (vw 1) (cst (.int 1)))))))
  (nilS []))
def c_count_below_1 : EF := (dcE false (itR1 (b2 dAdd (b2 dMul (vw 1) (b2 dIxA (vw 0) (cst (.int 0)))) (cst (.int 1)))) (gN 3) yesB (vr 3) (cst (.int 1)) [3])
def b_count_below_1 : SF := (seqS (setIA 5 (vw 3) (b2 dAdd (getE (vw 5) (vw 3) (cst (.int 0))) (vw 7)))
  (nilS [3]))
def b_count_below_2 : SF := (seqS (forS (itR2 (callE m_least_next (aC (vr 0) (aC (vr 4) (aC (vr 6) aN)))) (b2 dAdd (b2 dMul (vw 1) (b2 dIxA (vw 0) (vw 4))) (cst (.int 1)))) (gN 3)
  b_count_below_1)
  (nilS [3, 6, 7]))
def b_count_below_3 : SF := (seqS (setO 5 (cst (.dic false [])))
  (frzS 2 (seqS (forS (itI (vr 2)) (gT (gsC (gN 6) (gsC (gN 7) gsN)))
  b_count_below_2)
  (seqS (movS 2 5)
  (nilS [3, 4, 5, 6, 7])))))
def c_count_below_2 : EF := (lcE (itI (vr 2)) (gT (gsC (gN 8) (gsC (gN 7) gsN))) yesB (vr 7) [8, 7])
def m_count_below : List D → M D := runS 9 2 false (seqS (setO 2 c_count_below_1)
  (seqS (forS (itR2 (cst (.int 1)) (bA aLenB (aC (vw 0) aN))) (gN 4)
  b_count_below_3)
  (frzS 2 (seqS (retS (bA aSum (aC c_count_below_2 aN)))
  (nilS [])))))
def c__law_eq_1 (r : List D → M D) : EF := (lcE (itR1 (bA aLen (aC (vw 1) aN))) (gN 2) (notB (truB (callE r (aC (b2 dIx (vw 0) (vw 2)) (aC (b2 dIx (vw 1) (vw 2)) aN))))) (vr 2) [2])
def m__law_eq : Nat → List D → M D
  | 0 => fun _ _ => none
  | k + 1 => runS 3 2 false (seqS (ifS (orB (truB (b1 (isiD "list") (vw 1))) (truB (b1 (isiD "tuple") (vw 1))))
  (seqS (ifS (orB (isB (b2 dNe (b1 (isiD "list") (vw 0)) (b1 (isiD "list") (vw 1)))) (isB (b2 dNe (b1 (isiD "tuple") (vw 0)) (b1 (isiD "tuple") (vw 1)))))
  (seqS (retS (cst (.bl false)))
  (nilS []))
  (nilS []))
  (seqS (ifS (isB (b2 dNe (bA aLen (aC (vw 0) aN)) (bA aLen (aC (vw 1) aN))))
  (seqS (retS (cst (.bl false)))
  (nilS []))
  (nilS []))
  (seqS (retS (b2 dEq (c__law_eq_1 (m__law_eq k)) (eLst aN)))
  (nilS []))))
  (nilS []))
  (seqS (ifS (isB (b2 dIsN (vw 1) (cst .non)))
  (seqS (retS (b2 dIsN (vw 0) (cst .non)))
  (nilS []))
  (nilS []))
  (seqS (ifS (truB (b1 (isiD "str") (vw 1)))
  (seqS (retS (andV (b1 (isiD "str") (vw 0)) (b2 dEq (vw 0) (vw 1))))
  (nilS []))
  (nilS []))
  (seqS (ifS (truB (b1 (isiD "bool") (vw 1)))
  (seqS (retS (andV (b1 (isiD "bool") (vw 0)) (b2 dEq (vw 0) (vw 1))))
  (nilS []))
  (nilS []))
  (seqS (retS (andV (b1 (isiD "int") (vw 0)) (andV (notV (b1 (isiD "bool") (vw 0))) (b2 dEq (vw 0) (vw 1)))))
  (nilS []))))))
def b__law_below_1 : SF := (seqS (setIA 2 (vw 3) (cst (.int 1)))
  (nilS [3]))
def b__law_below_2 : SF := (seqS (ifS (isB (b2 dLe (b2 dMul (vw 6) (b2 dIxA (vw 0) (vw 4))) (b2 dMul (vw 3) (b2 dIxA (vw 0) (b2 dSub (vw 4) (cst (.int 1)))))))
  (seqS (setIA 5 (vw 3) (b2 dAdd (ifE (isB (b2 dInB (vw 3) (vw 5))) (b2 dIxA (vw 5) (vw 3)) (cst (.int 0))) (b2 dIxA (vw 2) (vw 6))))
  (nilS []))
  (nilS []))
  (nilS [3]))
def b__law_below_3 : SF := (seqS (forS (itR1 (b2 dAdd (b2 dMul (vw 1) (b2 dIxA (vw 0) (vw 4))) (cst (.int 1)))) (gN 3)
  b__law_below_2)
  (nilS [3, 6]))
def b__law_below_4 : SF := (seqS (setO 5 (cst (.dic false [])))
  (frzS 2 (seqS (forS (itSA (vr 2)) (gN 6)
  b__law_below_3)
  (seqS (movS 2 5)
  (nilS [3, 4, 5, 6])))))
def c__law_below_1 : EF := (lcE (itSA (vr 2)) (gN 3) yesB (b2 dIxA (vw 2) (vw 3)) [3])
def m__law_below : List D → M D := runS 7 2 false (seqS (setO 2 (cst (.dic false [])))
  (seqS (forS (itR1 (b2 dAdd (b2 dMul (vw 1) (b2 dIxA (vw 0) (cst (.int 0)))) (cst (.int 1)))) (gN 3)
  b__law_below_1)
  (seqS (forS (itR2 (cst (.int 1)) (bA aLenB (aC (vw 0) aN))) (gN 4)
  b__law_below_4)
  (frzS 2 (seqS (retS (bA aSum (aC c__law_below_1 aN)))
  (nilS []))))))
def b_law_1 : SF := (seqS (setD 5 (b2 dAdd (cst (.int 1)) (callE drawM (aC (vr 1) (aC (cst (.int 6)) aN)))))
  (seqS (ifS (isB (b2 dLe (b2 dMul (vw 4) (vw 5)) (cst (.int 400))))
  (seqS (parS 3 4 (b2 dAdd (vw 3) (eTup (aC (vr 5) aN))) (b2 dMul (vw 4) (vw 5)))
  (nilS []))
  (nilS []))
  (nilS [5, 9])))
def b_law_2 : SF := (seqS (setD 3 (eTup aN))
  (seqS (setD 4 (cst (.int 1)))
  (seqS (forS (itR1 (b2 dAdd (cst (.int 1)) (callE drawM (aC (vr 1) (aC (cst (.int 5)) aN))))) (gN 9)
  b_law_1)
  (seqS (setD 6 (callE drawM (aC (vr 1) (aC (cst (.int 9)) aN))))
  (seqS (setD 8 (callE m__law_below (aC (vr 3) (aC (vr 6) aN))))
  (seqS (ifS (orB (notB (truB (callE (m__law_eq 60) (aC (callE m_count_below (aC (vr 3) (aC (vr 6) aN))) (aC (vr 8) aN))))) (notB (truB (callE (m__law_eq 60) (aC (callE m_count_by_rises (aC (vr 3) (aC (vr 6) aN))) (aC (vr 8) aN))))))
  (seqS (retS (cst (.bl false)))
  (nilS []))
  (nilS []))
  (seqS (ifS (isB (b2 dNe (bA aSum (aC (callE m_rise_numbers (aC (vr 3) aN)) aN)) (vw 4)))
  (seqS (retS (cst (.bl false)))
  (nilS []))
  (nilS []))
  (nilS [2, 3, 4, 5, 6, 8, 9]))))))))
def b_law_3 : SF := (seqS (setD 8 (b2 dMul (vw 8) (b2 dAdd (vw 6) (cst (.int 1)))))
  (nilS [9]))
def b_law_4 : SF := (seqS (setD 11 (b2 dMul (vw 11) (b2 dAdd (b2 dAdd (b2 dMul (vw 6) (vw 10)) (vw 9)) (cst (.int 1)))))
  (nilS [9]))
def b_law_5 : SF := (seqS (setD 11 (b2 dDiv (vw 11) (vw 9)))
  (nilS [9]))
def m_law : SF := (seqS (forS (itR1 (cst (.int 3))) (gN 2)
  b_law_2)
  (seqS (parS 7 6 (b2 dAdd (cst (.int 1)) (callE drawM (aC (vr 1) (aC (cst (.int 8)) aN)))) (callE drawM (aC (vr 1) (aC (cst (.int 1000)) aN))))
  (seqS (setD 8 (cst (.int 1)))
  (seqS (forS (itR1 (vw 7)) (gN 9)
  b_law_3)
  (seqS (ifS (notB (truB (callE (m__law_eq 60) (aC (callE m_count_by_rises (aC (tupR2 (cst (.int 1)) (b2 dAdd (vw 7) (cst (.int 1)))) (aC (vr 6) aN))) (aC (vr 8) aN)))))
  (seqS (retS (cst (.bl false)))
  (nilS []))
  (nilS []))
  (seqS (setD 10 (b2 dAdd (cst (.int 1)) (callE drawM (aC (vr 1) (aC (cst (.int 12)) aN)))))
  (seqS (setD 11 (cst (.int 1)))
  (seqS (forS (itR1 (vw 7)) (gN 9)
  b_law_4)
  (seqS (forS (itR2 (cst (.int 1)) (b2 dAdd (vw 7) (cst (.int 1)))) (gN 9)
  b_law_5)
  (seqS (retS (callE (m__law_eq 60) (aC (callE m_count_by_rises (aC (b2 dMulT (eTup (aC (vr 10) aN)) (vw 7)) (aC (vr 6) aN))) (aC (vr 11) aN))))
  (nilS [])))))))))))
def m_start : FL.Env := .un :: .d .tok :: List.replicate 10 .un
end K59
end
section
set_option maxHeartbeats 1000000
/-! Lb: evaluation facts, wanted again and again. -/
namespace Lb
open PySem PySem.Spec PyProof.Rows L2 FL
theorem dNe_Te (p : List Int) : dNe (T p) (.tup []) = some (.bl (!decide (p = []))) := dNe_T p []
theorem dEq_Te (p : List Int) : dEq (T p) (.tup []) = some (.bl (decide (p = []))) := dEq_T p []
theorem dIx_head (a : Int) (q : List Int) : dIx (T (a :: q)) (.int 0) = some (.int a) := by
  show atI (D.int a :: q.map .int) ((0 : Nat) : Int) = _
  exact atI_nat rfl
theorem dAdd_ii (i j : Int) : dAdd (.int i) (.int j) = some (.int (i + j)) := Eq.symm rfl
theorem dAdd_1T {x : Int} {q : List Int} (h : q.length < 1000000) : dAdd (.tup [.int x]) (T q) = some (T (x :: q)) := by
  show (if [D.int x].length + (q.map D.int).length ≤ sizeLine then _ else _) = _
  rw [if_pos (by rw [sizeLine_eq, List.length_map]; simp only [List.length_cons, List.length_nil]; omega)]
  rfl
theorem dAdd_0T {q : List Int} (h : q.length < 1000000) : dAdd (.tup []) (T q) = some (T q) := by
  show (if ([] : List D).length + (q.map D.int).length ≤ sizeLine then _ else _) = _
  rw [if_pos (by rw [sizeLine_eq, List.length_map]; simp only [List.length_nil]; omega)]
  rfl
theorem aTuple_l (ds : List D) : aTuple [.lst ds] = some (.tup ds) := Eq.symm rfl
theorem tupT (q : List Int) : (.tup (q.map .int)) = T q := Eq.symm rfl
def encO : Option (List Int) → D
  | none => .non
  | some q => T q
theorem len0 {p : List Int} : ((p.length : Int) = 0) ↔ (p = []) := by
  constructor
  · intro h; exact List.eq_nil_of_length_eq_zero (by omega)
  · rintro rfl; rfl
theorem cut1 {α : Type} (x : α) (xs : List α) : FL.cutD (x :: xs) (some 1) none = xs := by
  unfold FL.cutD
  rw [show HT.sIx (x :: xs).length 0 (some 1) = min 1 (x :: xs).length from HT.sIx_nat _ _ 1, HT.sIx_none]
  simp
theorem dAdd_ll {xs ys : List D} (h : xs.length + ys.length ≤ 16000000) : dAdd (.lst xs) (.lst ys) = some (.lst (xs ++ ys)) := by
  show (if xs.length + ys.length ≤ sizeLine then some (D.lst (xs ++ ys)) else none) = _
  rw [if_pos (by rw [sizeLine_eq]; omega)]
theorem min_int (n m : Nat) : (if (m : Int) < (n : Int) then (m : Int) else (n : Int)) = ((min n m : Nat) : Int) := by
  split <;> omega
theorem aMin_ii (i j : Int) : aMin [.int i, .int j] = some (.int (if j < i then j else i)) := Eq.symm rfl
theorem dNe_le (q : List Int) : dNe (.lst (q.map .int)) (.lst []) = some (.bl (!decide (q = []))) := by
  have h1 : okd 60 (.lst (q.map .int)) = true := by simp [okd, List.all_map, List.all_eq_true]
  unfold dNe
  rw [h1]
  show some (D.bl (!eqD _ _)) = _
  unfold eqD
  rw [toPy, toPy, PyData.eqv, toPysI]
  cases q with
  | nil => rfl
  | cons a q => rw [List.map_cons, toPys, PyData.eqvAll]; rfl
theorem tr_nx {a : SF} {ρ ρ' : FL.Env} {R : FL.Env → Prop} (e : a ρ = FL.ret (.nx ρ')) (h : R ρ') : Tr (a ρ) (fun o => ∃ ρ', o = .nx ρ' ∧ R ρ') := by rw [e]; exact Tr.ret ⟨_, rfl, h⟩
theorem rowT (b : List Int) : rowD b = T b := Eq.symm rfl
theorem rows_T (L : List (List Int)) : L.map T = L.map rowD := Eq.symm rfl
theorem aSort_T {L : List (List Int)} (h : ∀ b ∈ L, b ≠ []) : aSortA [.lst (L.map T)] = some (.lst ((srtR L).map T)) := by
  show (if (L.map T).length < 2 then _ else _) = _
  by_cases h2 : (L.map T).length < 2
  · rw [if_pos h2]
    rw [List.length_map] at h2
    match L, h2 with
    | [], _ => rfl
    | [x], _ => rfl
    | _ :: _ :: _, h2 => simp at h2; omega
  · rw [if_neg h2]
    match L, h2, h with
    | [], h2, _ => simp at h2
    | x :: L', h2, h =>
      show (match rowsOf ((x :: L').map T) with
        | some bs => if (bs.all fun b => !b.isEmpty) = true then some (D.lst ((srtR bs).map rowD)) else none
        | none => none) = _
      rw [rows_T, rowsOf_map]
      show (if ((x :: L').all fun b => !b.isEmpty) = true then some (D.lst ((srtR (x :: L')).map rowD)) else none) = _
      rw [if_pos (by
        rw [List.all_eq_true]
        intro b hb
        cases b with
        | nil => exact absurd rfl (h [] hb)
        | cons _ _ => rfl)]
      rfl
theorem srtR_perm_eq {L M : List (List Int)} (h : L.Perm M) : srtR L = srtR M :=
  rows_uniq ((srtR_perm L).trans (h.trans (srtR_perm M).symm)) (srtR_sorted L) (srtR_sorted M)
theorem okd_rows (L : List (List Int)) : okd 60 (.lst (L.map T)) = true := by
  show (L.map T).all (okd 59) = true
  rw [List.all_map, List.all_eq_true]
  intro b _
  exact okdT 58 b
theorem dNe_self {d : D} (h : okd 60 d = true) : dNe d d = some (.bl false) := by
  unfold dNe
  rw [h, eqD_refl h]; rfl
theorem dMul_ii {i j : Int} (h : -18446744073709551616 < i) (h2 : i < 18446744073709551616) : dMul (.int i) (.int j) = some (.int (i * j)) := by
  show (if mulOk i j = true then some (D.int (i * j)) else none) = _
  rw [if_pos (by unfold mulOk; rw [decide_eq_true (show -(2 ^ 64) < i by omega), decide_eq_true (show i < 2 ^ 64 by omega)]; rfl)]
theorem dDiv_2 (i : Int) : dDiv (.int i) (.int 2) = some (.int (i / 2)) := by
  show (if (decide ((0 : Int) < 2) && decide ((2 : Int).natAbs < 2 ^ 8000)) = true then some (D.int (i / 2)) else none) = _
  rw [if_pos]
  rw [decide_eq_true (Nat.lt_of_lt_of_le (by decide : (2 : Int).natAbs < 2 ^ 20) (Nat.pow_le_pow_right (by decide) (by decide)))]
  rfl
theorem dMod_2 (i : Int) : dMod (.int i) (.int 2) = some (.int (i % 2)) := rfl
theorem flat1 (n : Nat) : (List.replicate n [D.int 1]).flatten = (List.replicate n (1 : Int)).map D.int := by
  rw [List.map_replicate]
  induction n with
  | zero => rfl
  | succ n ih => rw [List.replicate_succ, List.replicate_succ, List.flatten_cons, ih]; rfl
theorem dMulT_1 {k : Int} (h1 : k ≤ 1000) (h2 : -1000000 < k) : dMulT (.tup [.int 1]) (.int k) = some (T (List.replicate k.toNat 1)) := by
  show (if (decide ([D.int 1].length ≤ 1000) && decide (k ≤ 1000) && decide (-(2 ^ 63) ≤ k)) = true then some (D.tup (List.replicate k.toNat [D.int 1]).flatten) else none) = _
  rw [if_pos (by rw [decide_eq_true h1, decide_eq_true (show -(2 ^ 63) ≤ k by omega)]; rfl), flat1]
  rfl
theorem dAdd_TT {p q : List Int} (h : p.length + q.length < 1000000) : dAdd (T p) (T q) = some (T (p ++ q)) := by
  show (if (p.map D.int).length + (q.map D.int).length ≤ sizeLine then some (D.tup (p.map D.int ++ q.map D.int)) else none) = _
  rw [if_pos (by rw [sizeLine_eq, List.length_map, List.length_map]; omega), ← List.map_append]
  rfl
theorem sel_c (ρ : FL.Env) (b : Bool) : selE (cst (.int 1)) (cst (.int 0)) ρ b = ret (.int (if b = true then 1 else 0)) := by cases b <;> rfl
theorem gdI {L : List Int} (h : L.length < 1000000) : gd 59 (.lst (L.map .int)) = true := by
  simp [gd, sizeLine_eq]; omega
def rng (a : Int) (n : Nat) : List Int := (List.range n).map fun k : Nat => a + k
theorem upI_rng (a : Int) (n : Nat) : upI a n = (rng a n).map .int := by
  rw [upI_eq, rng, List.map_map]; rfl
theorem mem_rng {a x : Int} {n : Nat} : x ∈ rng a n ↔ a ≤ x ∧ x < a + n := by
  unfold rng
  rw [List.mem_map]
  constructor
  · rintro ⟨k, hk, rfl⟩
    have := List.mem_range.mp hk
    omega
  · rintro ⟨h1, h2⟩
    exact ⟨(x - a).toNat, List.mem_range.mpr (by omega), by omega⟩
theorem rg2_rng {a b : Int} (h1 : -100000 < a) (h2 : a < 100000) (h3 : -100000 < b) (h4 : b < 100000) : rg2 (.int a) (.int b) = some ((rng a (b - a).toNat).map .int) := by
  show (if (rgOk a && rgOk b) = true then some (upI a (b - a).toNat) else none) = _
  rw [if_pos (by
    unfold rgOk
    rw [decide_eq_true (show -(2 ^ 62) ≤ a by omega), decide_eq_true (show a < 2 ^ 62 by omega), decide_eq_true (show -(2 ^ 62) ≤ b by omega), decide_eq_true (show b < 2 ^ 62 by omega)]; rfl), upI_rng]
theorem rng_len (a : Int) (n : Nat) : (rng a n).length = n := by simp [rng]
theorem dSortR_T {q : List Int} (h : q.Pairwise fun a b => b ≤ a) : dSortR (T q) = some (.lst (q.map .int)) := by
  unfold dSortR intsD
  rw [seqD_T, Option.bind_some, intsOf_map]
  show some (D.lst ((srtI q).reverse.map .int)) = _
  rw [← sortedR_uniq (List.Perm.refl q) (show OrdB true q from h)]
theorem aList_T (q : List Int) : aList [T q] = some (.lst (q.map .int)) := rfl
theorem okdI (L : List Int) : okd 60 (.lst (L.map .int)) = true := by
  simp [okd, List.all_map, List.all_eq_true]
theorem rng_cons (a : Int) (n : Nat) : rng a (n + 1) = a :: rng (a + 1) n := by
  unfold rng
  rw [List.range_succ_eq_map, List.map_cons, List.map_map]
  congr 1
  · simp
  · apply List.map_congr_left
    intro x _
    simp only [Function.comp]
    omega
def tab (n : Nat) (f : Nat → Int) : List D := (List.range n).map fun i => D.int (f i)
theorem tab_len (n : Nat) (f : Nat → Int) : (tab n f).length = n := by simp [tab]
theorem tab_get {n : Nat} {f : Nat → Int} {i : Nat} (h : i < n) : (tab n f)[i]? = some (.int (f i)) := by
  simp [tab, h]
theorem tab_ix {n : Nat} {f : Nat → Int} {v : Int} (h0 : 0 ≤ v) (h : v < n) : dIx (.lst (tab n f)) (.int v) = some (.int (f v.toNat)) := by
  obtain ⟨k, rfl⟩ : ∃ k : Nat, v = k := ⟨v.toNat, by omega⟩
  show atI (tab n f) (k : Int) = _
  rw [atI_nat (tab_get (by omega)), Int.toNat_natCast]
theorem tab_snoc (n : Nat) (f : Nat → Int) : tab n f ++ [.int (f n)] = tab (n + 1) f := by
  unfold tab
  rw [List.range_succ, List.map_append]; rfl
theorem tab_congr {n : Nat} {f g : Nat → Int} (h : ∀ i, i < n → f i = g i) : tab n f = tab n g := by
  unfold tab
  apply List.map_congr_left
  intro i hi
  rw [h i (List.mem_range.mp hi)]
theorem tab_set {n : Nat} {f : Nat → Int} {t : Nat} {v : Int} : (tab n f).set t (.int v) = tab n (fun i => if i = t then v else f i) := by
  apply List.ext_getElem?
  intro i
  rw [List.getElem?_set, tab_len]
  by_cases hi : i < n
  · rw [tab_get hi, tab_get hi]
    by_cases h : t = i
    · subst h; simp [hi]
    · rw [if_neg h, if_neg (fun z => h z.symm)]
  · have e1 : (tab n f)[i]? = none := List.getElem?_eq_none (by rw [tab_len]; omega)
    have e2 : (tab n (fun i => if i = t then v else f i))[i]? = none := List.getElem?_eq_none (by rw [tab_len]; omega)
    rw [e1, e2]
    by_cases h : t = i
    · subst h; simp [hi]
    · rw [if_neg h]
theorem tab_setIO {n : Nat} {f : Nat → Int} {t : Nat} {v : Int} (h : t < n) : setIO (.o (.lst (tab n f))) (.int (t : Int)) (.int v) = some (.lst (tab n (fun i => if i = t then v else f i))) := by
  show (ixN (tab n f).length (t : Int)).map _ = _
  rw [tab_len]
  have : ixN n (t : Int) = some t := by
    unfold ixN
    rw [if_pos (by omega), if_pos (by omega), Int.toNat_natCast]
  rw [this, Option.map_some, tab_set]
theorem dAdd0_ii (i j : Int) : dAdd0 (.int i) (.int j) = some (.int (i + j)) := Eq.symm rfl
theorem tab_map (n : Nat) (f : Nat → Int) : tab n f = ((List.range n).map f).map .int := by
  unfold tab; rw [List.map_map]; rfl
theorem rg1_nat {n : Nat} (h : n < 100000) : rg1 (.int (n : Int)) = some ((List.range n).map fun k : Nat => D.int (k : Int)) := by
  show (if rgOk (n : Int) = true then some (upI 0 (n : Int).toNat) else none) = _
  rw [if_pos (by unfold rgOk; rw [decide_eq_true (show -(2 ^ 62) ≤ (n : Int) by omega), decide_eq_true (show (n : Int) < 2 ^ 62 by omega)]; rfl), upI_eq, Int.toNat_natCast]
  congr 1
  apply List.map_congr_left
  intro k _
  rw [Int.zero_add]
theorem aAll_b (bs : List Bool) : aAll [.lst (bs.map .bl)] = some (.bl (bs.all id)) := by
  show (bolsOf (bs.map D.bl)).map _ = _
  rw [bolsOf_map]; rfl
theorem dEq_ln (q : List Int) : dEq (.lst (q.map .int)) (.lst []) = some (.bl (decide (q = []))) := by
  have h1 : okd 60 (.lst (q.map .int)) = true := by simp [okd, List.all_map, List.all_eq_true]
  unfold dEq
  rw [h1]
  show some (D.bl (eqD _ _)) = _
  unfold eqD
  rw [toPy, toPy, PyData.eqv, toPysI]
  cases q with
  | nil => rfl
  | cons a q => rw [List.map_cons, toPys, PyData.eqvAll]; rfl
theorem enum_range (f : Nat → Int) : ∀ (n s : Nat) (g : Nat → Nat), enumD s ((List.range n).map fun k => D.int (f (g k))) = (List.range n).map fun k : Nat => D.tup [.int ((s + k : Nat) : Int), .int (f (g k))]
  | 0, s, g => rfl
  | n + 1, s, g => by
    rw [List.range_succ_eq_map, List.map_cons, List.map_map, List.map_cons, List.map_map, enumD]
    refine congrArg _ ?_
    have := enum_range f n (s + 1) (fun k => g (k + 1))
    show enumD (s + 1) ((List.range n).map fun k => D.int (f (g (k + 1)))) = _
    rw [this]
    apply List.map_congr_left
    intro k _
    simp only [Function.comp]
    rw [show s + 1 + k = s + (k + 1) by omega]
theorem enum_rg (f : Nat → Int) (n : Nat) : enumD 0 ((List.range n).map fun k => D.int (f k)) = (List.range n).map fun k : Nat => D.tup [.int (k : Int), .int (f k)] := by
  have := enum_range f n 0 id
  simp only [id, Nat.zero_add] at this
  exact this
theorem enum_tab (n : Nat) (f : Nat → Int) : enumD 0 (tab n f) = (List.range n).map fun k : Nat => D.tup [.int (k : Int), .int (f k)] := enum_rg f n
theorem tab_getIO {n : Nat} {f : Nat → Int} {t : Nat} (h : t < n) : getIO (.o (.lst (tab n f))) (.int (t : Int)) = some (.int (f t)) := by
  show atI (tab n f) (t : Int) = _
  exact atI_nat (tab_get h)
theorem rep0 {n : Nat} (hn : n ≤ 1000) : dMul (.lst [.int 0]) (.int n) = some (.lst (List.replicate n (.int 0))) := by
  show (if repOk 1 (n : Int) = true then some (D.lst (List.replicate (n : Int).toNat [D.int 0]).flatten) else none) = _
  rw [if_pos (by simp only [repOk, Bool.and_eq_true, decide_eq_true_eq, sizeLine_eq]; refine ⟨⟨by omega, by omega⟩, by omega⟩), Int.toNat_natCast]
  congr 2
  induction n with
  | zero => rfl
  | succ n ih => rw [List.replicate_succ, List.replicate_succ, List.flatten_cons, ih (by omega)]; rfl
theorem dMul_j {i j : Int} (h : -18446744073709551616 < j) (h2 : j < 18446744073709551616) : dMul (.int i) (.int j) = some (.int (i * j)) := by
  show (if mulOk i j = true then some (D.int (i * j)) else none) = _
  rw [if_pos (by unfold mulOk; rw [decide_eq_true (show -(2 ^ 64) < j by omega), decide_eq_true (show j < 2 ^ 64 by omega)]; simp)]
theorem fil_nil {α : Type} (c : α → Bool) : ∀ l : List α, (l.filter c).isEmpty = l.all fun x => !c x
  | [] => rfl
  | a :: l => by
    rw [List.all_cons, ← fil_nil c l]
    by_cases h : c a = true
    · rw [List.filter_cons_of_pos h, h]; rfl
    · rw [List.filter_cons_of_neg h]
      rw [Bool.not_eq_true] at h
      rw [h]; rfl
theorem dec_nil {α : Type} [DecidableEq α] (l : List α) : decide (l = []) = l.isEmpty := by cases l <;> rfl
theorem dDiv_p {i j : Int} (h : 0 < j) (h2 : j < 1000000) : dDiv (.int i) (.int j) = some (.int (i / j)) := by
  show (if (decide (0 < j) && decide (j.natAbs < 2 ^ 8000)) = true then some (D.int (i / j)) else none) = _
  rw [if_pos]
  rw [decide_eq_true h, decide_eq_true (Nat.lt_of_lt_of_le (by omega : j.natAbs < 2 ^ 20) (Nat.pow_le_pow_right (by decide) (by decide)))]
  rfl
theorem cutT (p : List Int) (lo hi : Option Int) : dSl (T p) lo hi = some (T (FL.cutD p lo hi)) := by
  show some (D.tup (FL.cutD (p.map D.int) lo hi)) = _
  unfold FL.cutD T
  rw [List.length_map, ← List.map_drop, ← List.map_take]
theorem cut_len {α : Type} (p : List α) (lo hi : Option Int) : (FL.cutD p lo hi).length ≤ p.length := by
  unfold FL.cutD
  rw [List.length_take, List.length_drop]; omega
theorem revT (p : List Int) : dRevT (T p) = some (T p.reverse) := by
  show some (D.tup (p.map D.int).reverse) = _
  rw [← List.map_reverse]; rfl
theorem five (f1 f2 f3 f4 f5 : EF) (ρ : FL.Env) {x1 x2 x3 x4 x5 : D} (h1 : f1 ρ = ret x1) (h2 : f2 ρ = ret x2) (h3 : f3 ρ = ret x3) (h4 : f4 ρ = ret x4) (h5 : f5 ρ = ret x5) : eLst (aC f1 (aC f2 (aC f3 (aC f4 (aC f5 aN))))) ρ = ret (.lst [x1, x2, x3, x4, x5]) := by
  unfold eLst
  simp only [aC, aN, h1, h2, h3, h4, h5, bnd_r]
  rw [if_pos (by rw [sizeLine_eq]; simp)]; rfl
theorem rng_snoc (a : Int) (n : Nat) : rng a (n + 1) = rng a n ++ [a + n] := by
  unfold rng
  rw [List.range_succ, List.map_append]; rfl
/-! items of tuples and lists of ints -/
def at' (p : List Int) (k : Nat) : Int := p.getD k 0
theorem ixT {p : List Int} {k : Nat} (h : k < p.length) : dIx (T p) (.int (k : Int)) = some (.int (at' p k)) := by
  show atI (p.map D.int) (k : Int) = _
  rw [atI_lt (by rw [List.length_map]; exact h)]
  unfold at'
  rw [List.getD_eq_getElem?_getD, List.getElem?_eq_getElem h]
  simp
theorem ixL {p : List Int} {k : Nat} (h : k < p.length) : dIx (.lst (p.map .int)) (.int (k : Int)) = some (.int (at' p k)) := ixT h
theorem ixD {ds : List D} {k : Nat} {d : D} (h : ds[k]? = some d) : dIx (.lst ds) (.int (k : Int)) = some d := atI_nat h
theorem ixDt {ds : List D} {k : Nat} {d : D} (h : ds[k]? = some d) : dIx (.tup ds) (.int (k : Int)) = some d := atI_nat h
theorem ixD_last (q : List D) (z : D) : dIx (.lst (q ++ [z])) (.int (-1)) = some z := FL.atI_last q z
theorem ixT_last (q : List Int) (z : Int) : dIx (T (q ++ [z])) (.int (-1)) = some (.int z) := by
  show atI ((q ++ [z]).map D.int) (-1) = _
  rw [List.map_append]; exact FL.atI_last _ _
theorem dSub_ii (i j : Int) : dSub (.int i) (.int j) = some (.int (i - j)) := Eq.symm rfl
theorem aMax_ii (i j : Int) : aMax [.int i, .int j] = some (.int (if j > i then j else i)) := Eq.symm rfl
theorem aInt_i (i : Int) : aInt [.int i] = some (.int i) := Eq.symm rfl
theorem aInt_b (b : Bool) : aInt [.bl b] = some (.int (if b = true then 1 else 0)) := Eq.symm rfl
theorem dMod_p {i j : Int} (h : 0 < j) : dMod (.int i) (.int j) = some (.int (i % j)) := by
  show (if _ then _ else _) = _
  rw [if_pos (by simp [h])]
theorem rg1_rng {n : Nat} (h : n < 100000) : rg1 (.int (n : Int)) = some ((rng 0 n).map .int) := by
  rw [rg1_nat h]
  unfold rng
  rw [List.map_map]
  congr 1
  apply List.map_congr_left
  intro k _
  simp only [Function.comp]
  rw [Int.zero_add]
theorem lr2_rng {a b : Int} (h1 : -100000 < a) (h2 : a < 100000) (h3 : -100000 < b) (h4 : b < 100000) : lr2 (.int a) (.int b) = some (rng a (b - a).toNat) := by
  show (if (rgOk a && rgOk b && decide ((b - a).toNat ≤ 16777216)) = true then some (rgL a (b - a).toNat) else none) = _
  rw [if_pos (by
    unfold rgOk
    rw [decide_eq_true (show -(2 ^ 62) ≤ a by omega), decide_eq_true (show a < 2 ^ 62 by omega), decide_eq_true (show -(2 ^ 62) ≤ b by omega), decide_eq_true (show b < 2 ^ 62 by omega), decide_eq_true (show (b - a).toNat ≤ 16777216 by omega)]; rfl)]
  rfl
theorem dCat_ll {xs ys : List D} (h : xs.length + ys.length ≤ 16000000) : dCat (.lst xs) (.lst ys) = some (.lst (xs ++ ys)) := by
  show (if xs.length + ys.length ≤ sizeLine then some (D.lst (xs ++ ys)) else none) = _
  rw [if_pos (by rw [sizeLine_eq]; omega)]
/-! tables -/
theorem tab_rep (n : Nat) : List.replicate n (D.int 0) = tab n (fun _ => 0) := by
  apply List.ext_getElem?
  intro i
  by_cases h : i < n
  · rw [tab_get h, List.getElem?_replicate, if_pos h]
  · rw [List.getElem?_eq_none (by rw [List.length_replicate]; omega), List.getElem?_eq_none (by rw [tab_len]; omega)]
theorem tab_cons (n : Nat) (f : Nat → Int) : tab (n + 1) f = .int (f 0) :: tab n (fun t => f (t + 1)) := by
  unfold tab
  rw [List.range_succ_eq_map, List.map_cons, List.map_map]; rfl
theorem tab_app (n m : Nat) (f : Nat → Int) : tab n f ++ tab m (fun t => f (n + t)) = tab (n + m) f := by
  apply List.ext_getElem?
  intro i
  rw [List.getElem?_append, tab_len]
  by_cases h : i < n
  · rw [if_pos h, tab_get h, tab_get (by omega)]
  · rw [if_neg h]
    by_cases h2 : i < n + m
    · rw [tab_get (by omega), tab_get h2]; congr 3; omega
    · rw [List.getElem?_eq_none (by rw [tab_len]; omega), List.getElem?_eq_none (by rw [tab_len]; omega)]
/-- [1] + [0] * n -/
def oneF (t : Nat) : Int := if t = 0 then 1 else 0
theorem tab_one (n : Nat) : D.int 1 :: List.replicate n (D.int 0) = tab (n + 1) oneF := by
  rw [tab_cons, tab_rep]; rfl
theorem one0 {n : Nat} (hn : n ≤ 1000000) : dAdd (.lst [.int 1]) (.lst (List.replicate n (.int 0))) = some (.lst (tab (n + 1) oneF)) := by
  rw [dAdd_ll (by rw [List.length_replicate]; simp only [List.length_cons, List.length_nil]; omega), ← tab_one]; rfl
theorem oneC {n : Nat} (hn : n ≤ 1000000) : dCat (.lst [.int 1]) (.lst (List.replicate n (.int 0))) = some (.lst (tab (n + 1) oneF)) := by
  rw [dCat_ll (by rw [List.length_replicate]; simp only [List.length_cons, List.length_nil]; omega), ← tab_one]; rfl
theorem rep0' {n : Nat} (hn : n ≤ 1000000) : dMul (.lst [.int 0]) (.int n) = some (.lst (List.replicate n (.int 0))) := by
  show (if repOk 1 (n : Int) = true then some (D.lst (List.replicate (n : Int).toNat [D.int 0]).flatten) else none) = _
  rw [if_pos (by simp only [repOk, Bool.and_eq_true, decide_eq_true_eq, sizeLine_eq]; refine ⟨⟨by omega, by omega⟩, by omega⟩), Int.toNat_natCast]
  congr 2
  induction n with
  | zero => rfl
  | succ n ih => rw [List.replicate_succ, List.replicate_succ, List.flatten_cons, ih (by omega)]; rfl
theorem repR0 {n : Nat} (hn : n ≤ 1000000) : dRep (.lst [.int 0]) (.int n) = some (.lst (List.replicate n (.int 0))) := by
  rw [← rep0' hn]; rfl
/-! loops as folds -/
theorem forFold {α σ : Type} {it : AF} {b : GF} {body : SF} {ρ0 : FL.Env} {l : List α} {enc : α → D} {E : σ → FL.Env} {step : σ → α → σ} (I : List α → σ → Prop) {s0 : σ} (hit : it ρ0 = ret (l.map enc)) (h0 : I l s0) (hE : ∀ a ∈ l, b (enc a) ρ0 = b (enc a) (E s0))
    (hs : ∀ a r s, (a :: r) <:+ l → I (a :: r) s → ∃ ρ1, b (enc a) (E s) = some ρ1 ∧ body ρ1 = ret (.nx (E (step s a))) ∧ I r (step s a)) : forS it b body ρ0 = ret (.nx (if l.isEmpty = true then ρ0 else E (l.foldl step s0))) := by
  unfold FL.forS
  rw [hit, bnd_r]
  cases l with
  | nil => rfl
  | cons a l =>
    have main : ∀ (r : List α) (s : σ), r <:+ (a :: l) → I r s → forL b body (r.map enc) (E s) = ret (.nx (E (r.foldl step s))) := by
      intro r
      induction r with
      | nil => intro s _ _; rfl
      | cons x r ih =>
        intro s h i
        obtain ⟨ρ1, e1, e2, i2⟩ := hs x r s h i
        rw [List.map_cons, forL_cons, e1, opt_s, bnd_r, e2, bnd_r, loop_nx, ih _ ((List.suffix_cons _ _).trans h) i2]; rfl
    have h1 : forL b body ((a :: l).map enc) ρ0 = forL b body ((a :: l).map enc) (E s0) := by
      rw [List.map_cons, forL_cons, forL_cons, hE a (by simp)]
    rw [h1, main _ _ (List.suffix_refl _) h0]; rfl
/-- a table changed at one place -/
def upF (h : Nat → Int) (t : Nat) (v : Int) : Nat → Int := fun x => if x = t then v else h x
def mixU (a t : Nat) (f g : Nat → Int) : Nat → Int := fun x => if a ≤ x ∧ x < t then g x else f x
theorem mixU_lo {a t x : Nat} {f g : Nat → Int} (h : x < a) : mixU a t f g x = f x := by unfold mixU; rw [if_neg (by omega)]
theorem mixU_hi {a t x : Nat} {f g : Nat → Int} (h : t ≤ x) : mixU a t f g x = f x := by unfold mixU; rw [if_neg (by omega)]
theorem mixU_in {a t x : Nat} {f g : Nat → Int} (h : a ≤ x) (h2 : x < t) : mixU a t f g x = g x := by unfold mixU; rw [if_pos ⟨h, h2⟩]
theorem mixU_step {a t : Nat} {f g : Nat → Int} (h : a ≤ t) : upF (mixU a t f g) t (g t) = mixU a (t + 1) f g := by
  funext x
  unfold upF mixU
  by_cases e : x = t
  · subst e; rw [if_pos rfl, if_pos (by omega)]
  · rw [if_neg e]
    by_cases c : a ≤ x ∧ x < t
    · rw [if_pos c, if_pos (by omega)]
    · rw [if_neg c, if_neg (by omega)]
theorem mixU_nil {a t : Nat} {f g : Nat → Int} (h : t ≤ a) : mixU a t f g = f := by
  funext x; unfold mixU; rw [if_neg (by omega)]
/-- for t in range(a, b): table[t] = val; upwards -/
theorem loopUp {a b i : Nat} {f g : Nat → Int} {E : (Nat → Int) → SV → FL.Env} {it : AF} {body : SF} {x0 : SV} (val : (Nat → Int) → Nat → Int) (hit : it (E f x0) = ret ((rng (a : Int) (b - a)).map .int))
    (hset : ∀ h x d, gN i d (E h x) = some (E h (.d d))) (hb : ∀ t h, a ≤ t → t < b → body (E h (.d (.int (t : Int)))) = ret (.nx (E (upF h t (val h t)) .un)))
    (hv : ∀ t, a ≤ t → t < b → val (mixU a t f g) t = g t) : ∃ x1, forS it (gN i) body (E f x0) = ret (.nx (E (mixU a b f g) x1)) := by
  have key := forFold (it := it) (b := gN i) (body := body) (ρ0 := E f x0) (l := rng (a : Int) (b - a)) (enc := D.int) (E := fun t : Nat => E (mixU a t f g) .un) (step := fun t _ => t + 1)
    (I := fun l t => a ≤ t ∧ l = rng (t : Int) (b - t)) (s0 := a) hit ⟨Nat.le_refl _, rfl⟩ (fun d _ => by rw [mixU_nil (Nat.le_refl _), hset, hset]) fun d r t _ ⟨h1, h2⟩ => by
      have hlt : t < b := by
        by_cases h : t < b
        · exact h
        · rw [show b - t = 0 by omega] at h2; cases h2
      rw [show b - t = (b - (t + 1)) + 1 by omega, rng_cons] at h2
      cases h2
      refine ⟨_, hset _ _ _, ?_, by omega, ?_⟩
      · rw [hb t _ h1 hlt, hv t h1 hlt, mixU_step h1]
      · rw [show ((t + 1 : Nat) : Int) = (t : Int) + 1 by omega]
  rw [key]
  by_cases hab : b ≤ a
  · rw [show b - a = 0 by omega]
    refine ⟨x0, ?_⟩
    rw [mixU_nil hab]; rfl
  · refine ⟨.un, ?_⟩
    obtain ⟨m, hm⟩ : ∃ m, b - a = m + 1 := ⟨b - a - 1, by omega⟩
    rw [hm, rng_cons]
    have fold : ∀ (l : List Int) (t : Nat), l.foldl (fun (t : Nat) _ => t + 1) t = t + l.length := by
      intro l
      induction l with
      | nil => intro t; rfl
      | cons x l ih => intro t; rw [List.foldl_cons, ih]; simp only [List.length_cons]; omega
    rw [fold]
    simp only [List.isEmpty_cons, Bool.false_eq_true, if_false, List.length_cons, rng_len]
    rw [show a + (m + 1) = b by omega]
def mixD (t b : Nat) (f g : Nat → Int) : Nat → Int := fun x => if t ≤ x ∧ x < b then g x else f x
theorem mixD_lo {t b x : Nat} {f g : Nat → Int} (h : x < t) : mixD t b f g x = f x := by unfold mixD; rw [if_neg (by omega)]
theorem mixD_step {t b : Nat} {f g : Nat → Int} (h : t < b) : upF (mixD (t + 1) b f g) t (g t) = mixD t b f g := by
  funext x
  unfold upF mixD
  by_cases e : x = t
  · subst e; rw [if_pos rfl, if_pos (by omega)]
  · rw [if_neg e]
    by_cases c : t + 1 ≤ x ∧ x < b
    · rw [if_pos c, if_pos (by omega)]
    · rw [if_neg c, if_neg (by omega)]
theorem mixD_nil {t b : Nat} {f g : Nat → Int} (h : b ≤ t) : mixD t b f g = f := by
  funext x; unfold mixD; rw [if_neg (by omega)]
/-- downwards -/
theorem loopDn {a b i : Nat} {f g : Nat → Int} {E : (Nat → Int) → SV → FL.Env} {it : AF} {body : SF} {x0 : SV} (val : (Nat → Int) → Nat → Int) (hit : it (E f x0) = ret ((rng (a : Int) (b - a)).reverse.map .int))
    (hset : ∀ h x d, gN i d (E h x) = some (E h (.d d))) (hb : ∀ t h, a ≤ t → t < b → body (E h (.d (.int (t : Int)))) = ret (.nx (E (upF h t (val h t)) .un)))
    (hv : ∀ t, a ≤ t → t < b → val (mixD (t + 1) b f g) t = g t) : ∃ x1, forS it (gN i) body (E f x0) = ret (.nx (E (mixD a b f g) x1)) := by
  have key := forFold (it := it) (b := gN i) (body := body) (ρ0 := E f x0) (l := (rng (a : Int) (b - a)).reverse) (enc := D.int) (E := fun t : Nat => E (mixD t b f g) .un) (step := fun t _ => t - 1)
    (I := fun l t => (a ≤ t ∧ t ≤ b ∨ b ≤ a ∧ t = b) ∧ l = (rng (a : Int) (t - a)).reverse) (s0 := b) hit ⟨by omega, rfl⟩ (fun d _ => by rw [mixD_nil (Nat.le_refl _), hset, hset]) fun d r t _ ⟨h1, h2⟩ => by
      have hlt : a < t := by
        by_cases h : a < t
        · exact h
        · rw [show t - a = 0 by omega] at h2; cases h2
      rw [show t - a = (t - 1 - a) + 1 by omega, rng_snoc, List.reverse_append, List.reverse_singleton, List.singleton_append] at h2
      cases h2
      have e : (a : Int) + ((t - 1 - a : Nat) : Int) = ((t - 1 : Nat) : Int) := by omega
      rw [e]
      refine ⟨_, hset _ _ _, ?_, by omega, rfl⟩
      have h3 := hv (t - 1) (by omega) (by omega)
      rw [show t - 1 + 1 = t by omega] at h3
      rw [hb (t - 1) _ (by omega) (by omega), h3]
      have h4 := mixD_step (t := t - 1) (b := b) (f := f) (g := g) (by omega)
      rw [show t - 1 + 1 = t by omega] at h4
      rw [h4]
  rw [key]
  by_cases hab : b ≤ a
  · rw [show b - a = 0 by omega]
    refine ⟨x0, ?_⟩
    rw [mixD_nil hab]; rfl
  · refine ⟨.un, ?_⟩
    have hne : ((rng (a : Int) (b - a)).reverse).isEmpty = false := by
      cases h : (rng (a : Int) (b - a)).reverse with
      | nil =>
        have := congrArg List.length h
        rw [List.length_reverse, rng_len] at this
        simp at this; omega
      | cons _ _ => rfl
    have fold : ∀ (l : List Int) (t : Nat), l.foldl (fun (t : Nat) _ => t - 1) t = t - l.length := by
      intro l
      induction l with
      | nil => intro t; rfl
      | cons x l ih => intro t; rw [List.foldl_cons, ih]; simp only [List.length_cons]; omega
    rw [hne, fold, List.length_reverse, rng_len]
    simp only [Bool.false_eq_true, if_false]
    rw [show b - (b - a) = a by omega]
/-- a comprehension over range(n) that makes a table -/
theorem lcTab {n : Nat} {it : AF} {el : EF} {vs : List Nat} {ρ : FL.Env} {b : GF} (f : Nat → Int) (enc : Nat → D) (hit : it ρ = ret ((List.range n).map enc)) (hn : n < 1000000) (h : ∀ t, t < n → ∃ ρ1, b (enc t) (fgt vs ρ) = some ρ1 ∧ el ρ1 = ret (.int (f t))) : lcE it b yesB el vs ρ = ret (.lst (tab n f)) := by
  rw [lcE_map enc (fun t => D.int (f t)) (List.range n) hit (by rw [List.length_range, sizeLine_eq]; omega) fun t ht => h t (List.mem_range.mp ht)]
  rfl
theorem leqD {m : Nat → List D → M D} (hm : ∀ k, m k = lawEqM k) {d : D} (h : gd 59 d = true) : m 60 [d, d] = ret (.bl true) := by
  rw [hm]; exact lawEq60 h
theorem gdTab (n : Nat) (hn : n < 1000000) (f : Nat → Int) : gd 59 (.lst (tab n f)) = true := by
  rw [tab_map]; exact gdI (by simp; omega)
/-- drawing one of a list -/
def pickM : List D → M D := runS 2 2 false (seqS (retS (b2 dIx (vw 1) (callE drawM (aC (vr 0) (aC (bA aLen (aC (vw 1) aN)) aN)))))
  (nilS []))
theorem pick_tr {L : List D} (h : L ≠ []) (hz : L.length < 100000) : Tr (pickM [.tok, .lst L]) (fun d => d ∈ L) := by
  unfold pickM
  refine tr_runS rfl ?_
  simp only [run_r, seq_r, cont_nx, cont_rt, cont_bk, cont_ct, if_r, sel_t, sel_f, ife_r, sele_t, sele_f, and_r, or_r, sela_t, sela_f, selo_t, selo_f, out_rt, out_rtl, out_rtO, out_nx, setD, setO, retS, retO, retV, retN, nilS, fgt, isB, truB, truD, notB, orV, andV, notV, b1, b2, bA, aC, aN, vr, vw, cst, nth, sset, bnd_r, opt_s, cond_true, cond_false, eTup_0, eTup_1, eTup_2, eTup_3, eLst_0, eLst_1, eLst_2, eLst_3, callE, mkE, List.replicate_succ, List.replicate_zero, List.length_cons, List.length_nil, List.length_map, if_true, if_false, Nat.reduceAdd, Nat.reduceSub, Bool.false_and, Bool.and_true, Bool.true_and, Bool.and_false, Bool.not_true, Bool.not_false, Bool.true_or, Bool.or_true, Bool.false_or, Bool.or_false, reduceIte, Bool.false_eq_true, dGt, dLt, dGe, dLe, dCmp, dSub, dNeg, aLen, seqD_tup, seqD_lst, seqD_T, Option.map_some, dIsN, dNotN, isNonD_non, isNonD_bl, isNonD_int, isNonD_str, isNonD_tup, isNonD_lst, isNonD_T, forL_nil, forL_cons, loop_nx, loop_ct, loop_bk, loop_rt, frzS, frzE, appS, parS, bnd_assoc]
  have hpos : (0 : Int) < (L.length : Int) := by
    cases L with
    | nil => exact absurd rfl h
    | cons a L => simp only [List.length_cons]; omega
  refine tr_draw hpos (by omega) fun v h1 h2 => ?_
  obtain ⟨k, rfl⟩ : ∃ k : Nat, v = k := ⟨v.toNat, by omega⟩
  have hv : k < L.length := by omega
  have e : dIx (.lst L) (.int (k : Int)) = some L[k] := atI_lt hv
  simp only [run_r, seq_r, cont_nx, cont_rt, cont_bk, cont_ct, if_r, sel_t, sel_f, ife_r, sele_t, sele_f, and_r, or_r, sela_t, sela_f, selo_t, selo_f, out_rt, out_rtl, out_rtO, out_nx, setD, setO, retS, retO, retV, retN, nilS, fgt, isB, truB, truD, notB, orV, andV, notV, b1, b2, bA, aC, aN, vr, vw, cst, nth, sset, bnd_r, opt_s, cond_true, cond_false, eTup_0, eTup_1, eTup_2, eTup_3, eLst_0, eLst_1, eLst_2, eLst_3, callE, mkE, List.replicate_succ, List.replicate_zero, List.length_cons, List.length_nil, List.length_map, if_true, if_false, Nat.reduceAdd, Nat.reduceSub, Bool.false_and, Bool.and_true, Bool.true_and, Bool.and_false, Bool.not_true, Bool.not_false, Bool.true_or, Bool.or_true, Bool.false_or, Bool.or_false, reduceIte, Bool.false_eq_true, dGt, dLt, dGe, dLe, dCmp, dSub, dNeg, aLen, seqD_tup, seqD_lst, seqD_T, Option.map_some, dIsN, dNotN, isNonD_non, isNonD_bl, isNonD_int, isNonD_str, isNonD_tup, isNonD_lst, isNonD_T, forL_nil, forL_cons, loop_nx, loop_ct, loop_bk, loop_rt, frzS, frzE, appS, parS, e]
  exact Tr.ret ⟨_, rfl, List.getElem_mem hv⟩
theorem loopN {a : Int} {m : Nat} {it : AF} {b : GF} {body : SF} (E : Nat → FL.Env) (hit : it (E 0) = ret ((rng a m).map .int)) (hb : ∀ i, i < m → ∃ ρ1, b (.int (a + (i : Int))) (E i) = some ρ1 ∧ body ρ1 = ret (.nx (E (i + 1)))) : forS it b body (E 0) = ret (.nx (E m)) := by
  unfold FL.forS
  rw [hit, bnd_r]
  have main : ∀ (n i : Nat), i + n = m → forL b body ((rng (a + (i : Int)) n).map .int) (E i) = ret (.nx (E m)) := by
    intro n
    induction n with
    | zero => intro i h; rw [show i = m by omega]; rfl
    | succ n ih =>
      intro i h
      obtain ⟨ρ1, e1, e2⟩ := hb i (by omega)
      rw [rng_cons, List.map_cons, forL_cons, e1, opt_s, bnd_r, e2, bnd_r, loop_nx]
      have := ih (i + 1) (by omega)
      rw [show a + ((i + 1 : Nat) : Int) = a + (i : Int) + 1 by omega] at this
      exact this
  have := main m 0 (by omega)
  rw [show a + ((0 : Nat) : Int) = a by omega] at this
  exact this
/-- with something else in the loop's slot at the start -/
theorem loopN' {a : Int} {m : Nat} {it : AF} {b : GF} {body : SF} (E : Nat → FL.Env) {ρ0 : FL.Env} (hit : it ρ0 = ret ((rng a m).map .int)) (h0 : ∀ d, b d ρ0 = b d (E 0)) (hb : ∀ i, i < m → ∃ ρ1, b (.int (a + (i : Int))) (E i) = some ρ1 ∧ body ρ1 = ret (.nx (E (i + 1)))) : forS it b body ρ0 = ret (.nx (if m = 0 then ρ0 else E m)) := by
  cases m with
  | zero => unfold FL.forS; rw [hit, bnd_r]; rfl
  | succ m =>
    have h := loopN (it := fun _ => ret ((rng a (m + 1)).map .int)) (b := b) (body := body) E rfl hb
    rw [if_neg (by omega), ← h]
    unfold FL.forS
    rw [hit, bnd_r, bnd_r, rng_cons, List.map_cons, forL_cons, forL_cons, h0]
/-! slices -/
theorem cut_to {α : Type} (xs : List α) (k : Nat) : FL.cutD xs none (some (k : Int)) = xs.take k := by
  unfold FL.cutD
  rw [HT.sIx_nat, HT.sIx_none, List.drop_zero, Nat.sub_zero]
  by_cases h : k ≤ xs.length
  · rw [show min k xs.length = k by omega]
  · rw [show min k xs.length = xs.length by omega, List.take_length, List.take_of_length_le (by omega)]
theorem cut_from {α : Type} (xs : List α) (k : Nat) : FL.cutD xs (some (k : Int)) none = xs.drop k := by
  unfold FL.cutD
  rw [HT.sIx_nat, HT.sIx_none]
  by_cases h : k ≤ xs.length
  · rw [show min k xs.length = k by omega, List.take_of_length_le (by rw [List.length_drop]; omega)]
  · rw [show min k xs.length = xs.length by omega, List.drop_of_length_le (by omega), List.drop_of_length_le (by omega), List.take_nil]
theorem cut_ft {α : Type} (xs : List α) (a b : Nat) : FL.cutD xs (some (a : Int)) (some (b : Int)) = (xs.take b).drop a := by
  unfold FL.cutD
  rw [HT.sIx_nat, HT.sIx_nat]
  apply List.ext_getElem?
  intro i
  rw [List.getElem?_take, List.getElem?_drop, List.getElem?_drop, List.getElem?_take]
  by_cases h : i < min b xs.length - min a xs.length
  · rw [if_pos h, if_pos (by omega), show min a xs.length = a by omega]
  · rw [if_neg h]
    by_cases h2 : a + i < b
    · rw [if_pos h2, List.getElem?_eq_none (by omega)]
    · rw [if_neg h2]
theorem slL_to (xs : List D) (k : Nat) : dSl (.lst xs) none (some (k : Int)) = some (.lst (xs.take k)) := by
  rw [← cut_to]; rfl
theorem slL_from (xs : List D) (k : Nat) : dSl (.lst xs) (some (k : Int)) none = some (.lst (xs.drop k)) := by
  rw [← cut_from]; rfl
theorem slT_to (p : List Int) (k : Nat) : dSl (T p) none (some (k : Int)) = some (T (p.take k)) := by rw [cutT, cut_to]
theorem slT_from (p : List Int) (k : Nat) : dSl (T p) (some (k : Int)) none = some (T (p.drop k)) := by rw [cutT, cut_from]
/-- a list grown piece by piece -/
theorem loopAcc {α β : Type} {it : AF} {b : GF} {body : SF} (E : List β → FL.Env) (l : List α) (enc : α → D) (g : α → List β) (hit : it (E []) = ret (l.map enc)) (hz : (l.flatMap g).length ≤ 1000000) (hb : ∀ a ∈ l, ∀ acc : List β, acc.length + (g a).length ≤ 1000000 → ∃ ρ1, b (enc a) (E acc) = some ρ1 ∧ body ρ1 = ret (.nx (E (acc ++ g a)))) : forS it b body (E []) = ret (.nx (E (l.flatMap g))) := by
  unfold FL.forS
  rw [hit, bnd_r]
  have main : ∀ (r : List α) (acc : List β), (∀ a ∈ r, a ∈ l) → acc.length + (r.flatMap g).length ≤ 1000000 → forL b body (r.map enc) (E acc) = ret (.nx (E (acc ++ r.flatMap g))) := by
    intro r
    induction r with
    | nil => intro acc _ _; rw [List.flatMap_nil, List.append_nil]; rfl
    | cons a r ih =>
      intro acc hm hz
      rw [List.flatMap_cons, List.length_append] at hz
      obtain ⟨ρ1, e1, e2⟩ := hb a (hm a (by simp)) acc (by omega)
      rw [List.map_cons, forL_cons, e1, opt_s, bnd_r, e2, bnd_r, loop_nx, ih _ (fun x hx => hm x (by simp [hx])) (by rw [List.length_append]; omega), List.flatMap_cons, List.append_assoc]
  have := main l [] (fun _ h => h) (by simpa using hz)
  rw [List.nil_append] at this
  exact this
theorem loopAcc' {α β : Type} {it : AF} {b : GF} {body : SF} (E : List β → FL.Env) {ρ0 : FL.Env} (l : List α) (enc : α → D) (g : α → List β) (hit : it ρ0 = ret (l.map enc)) (h0 : ∀ d, b d ρ0 = b d (E [])) (hz : (l.flatMap g).length ≤ 1000000) (hb : ∀ a ∈ l, ∀ acc : List β, acc.length + (g a).length ≤ 1000000 → ∃ ρ1, b (enc a) (E acc) = some ρ1 ∧ body ρ1 = ret (.nx (E (acc ++ g a)))) : forS it b body ρ0 = ret (.nx (if l.isEmpty = true then ρ0 else E (l.flatMap g))) := by
  cases l with
  | nil => unfold FL.forS; rw [hit, bnd_r]; rfl
  | cons a l =>
    have h := loopAcc (it := fun _ => ret ((a :: l).map enc)) (b := b) (body := body) E (a :: l) enc g rfl hz hb
    rw [if_neg (by simp), ← h]
    unfold FL.forS
    rw [hit, bnd_r, bnd_r, List.map_cons, forL_cons, forL_cons, h0]
theorem lcFil {α : Type} {it : AF} {b : GF} {tt : BF} {el : EF} {vs : List Nat} {ρ : FL.Env} (enc : α → D) (c : α → Bool) (g : α → D) (l : List α) (hi : it ρ = ret (l.map enc)) (hz : l.length ≤ 1000000) (h : ∀ a ∈ l, ∃ ρ1, b (enc a) (fgt vs ρ) = some ρ1 ∧ tt ρ1 = ret (c a) ∧ (c a = true → el ρ1 = ret (g a))) : lcE it b tt el vs ρ = ret (.lst ((l.filter c).map g)) := by
  rw [lcE_pure enc (fun a => if c a = true then some (g a) else none) l hi (by rw [sizeLine_eq]; omega) fun a ha => ?_, fm_filter]
  obtain ⟨ρ1, e1, e2, e3⟩ := h a ha
  refine ⟨ρ1, e1, ?_⟩
  by_cases hc : c a = true
  · exact .inr ⟨g a, by rw [if_pos hc], by rw [e2, hc], e3 hc⟩
  · rw [Bool.not_eq_true] at hc
    exact .inl ⟨by rw [hc]; rfl, by rw [e2, hc]⟩
theorem tr_drawN {β : Type} {m : Int} {k : D → M β} {P : β → Prop} (h0 : 0 < m) (h1 : m < 1000000) (h : ∀ v : Nat, (v : Int) < m → Tr (k (.int (v : Int))) P) : Tr (bnd (drawM [.tok, .int m]) k) P :=
  tr_draw h0 h1 fun v h2 h3 => by
    obtain ⟨n, rfl⟩ : ∃ n : Nat, v = n := ⟨v.toNat, by omega⟩
    exact h n h3
theorem gdRows (L : List (List Int)) (hL : L.length < 1000000) (h : ∀ p ∈ L, p.length < 1000000) : gd 59 (.lst (L.map T)) = true := by
  simp only [gd, Bool.and_eq_true, decide_eq_true_eq, List.length_map, sizeLine_eq, List.all_map, List.all_eq_true]
  refine ⟨fun p hp => ?_, by omega⟩
  have := h p hp
  show gd 58 (T p) = true
  simp [gd, T, sizeLine_eq]; omega
/-- five times the same -/
theorem tr_same {it : AF} {b : GF} {body : SF} {ρ : FL.Env} {n : Nat} {I : FL.Env → Prop} (hit : it ρ = ret (upI 0 n)) (h0 : I ρ) (hb : ∀ d ρ, I ρ → ∃ ρ1, b d ρ = some ρ1 ∧ Tr (body ρ1) (fun o => ∃ ρ', o = .nx ρ' ∧ I ρ')) : Tr (forS it b body ρ) (fun o => ∃ ρ', o = .nx ρ' ∧ I ρ') :=
  tr_forS (ds := upI 0 n) (I := fun _ ρ => I ρ) hit h0 (fun d _ ρ _ h => hb d ρ h) fun ρ h => ⟨ρ, rfl, h⟩
/-! while loops -/
theorem loopW {t : BF} {body : SF} (E : Nat → FL.Env) (m : Nat) (hm : m < 999999) (h : ∀ i, i < m → t (E i) = ret true ∧ body (E i) = ret (.nx (E (i + 1)))) (he : t (E m) = ret false) : whS t body (E 0) = ret (.nx (E m)) := by
  have main : ∀ (k i n : Nat), i + k = m → k < n → whL t body n (E i) = ret (.nx (E m)) := by
    intro k
    induction k with
    | zero =>
      intro i n h1 h2
      cases n with
      | zero => omega
      | succ n =>
        rw [show i = m by omega]
        show bnd (t (E m)) _ = _
        rw [he, bnd_r]; rfl
    | succ k ih =>
      intro i n h1 h2
      cases n with
      | zero => omega
      | succ n =>
        obtain ⟨e1, e2⟩ := h i (by omega)
        show bnd (t (E i)) _ = _
        rw [e1, bnd_r]
        show bnd (body (E i)) _ = _
        rw [e2, bnd_r]
        exact ih (i + 1) n (by omega) (by omega)
  exact main m 0 WF (by omega) (by show m < 1000000; omega)
/-! tuples as tables -/
theorem mapI_tab (p : List Int) : p.map D.int = tab p.length (at' p) := by
  apply List.ext_getElem?
  intro i
  by_cases h : i < p.length
  · rw [tab_get h, List.getElem?_map, List.getElem?_eq_getElem h]
    unfold at'
    rw [List.getD_eq_getElem?_getD, List.getElem?_eq_getElem h]; rfl
  · rw [List.getElem?_eq_none (by rw [List.length_map]; omega), List.getElem?_eq_none (by rw [tab_len]; omega)]
/-- the first n of f -/
def lsF (n : Nat) (f : Nat → Int) : List Int := (List.range n).map f
theorem lsF_len (n : Nat) (f : Nat → Int) : (lsF n f).length = n := by simp [lsF]
theorem lsF_tab (n : Nat) (f : Nat → Int) : (lsF n f).map D.int = tab n f := by rw [tab_map]; rfl
theorem T_tab (n : Nat) (f : Nat → Int) : T (lsF n f) = .tup (tab n f) := by unfold T; rw [lsF_tab]
theorem lsF_at {n : Nat} {f : Nat → Int} {k : Nat} (h : k < n) : at' (lsF n f) k = f k := by
  unfold at' lsF
  simp [List.getD_eq_getElem?_getD, h]
theorem lsF_congr {n : Nat} {f g : Nat → Int} (h : ∀ t, t < n → f t = g t) : lsF n f = lsF n g := by
  unfold lsF
  exact List.map_congr_left fun t ht => h t (List.mem_range.mp ht)
theorem lsF_atp (p : List Int) : lsF p.length (at' p) = p := by
  have := mapI_tab p
  rw [← lsF_tab] at this
  have h : Function.Injective D.int := fun a b e => by cases e; rfl
  exact (List.map_inj_right h).mp this.symm
theorem lsF_get {n : Nat} {f : Nat → Int} {k : Nat} (h : k < n) : (lsF n f)[k]? = some (f k) := by simp [lsF, h]
theorem ix_lsF {n : Nat} {f : Nat → Int} {k : Nat} (h : k < n) : dIx (T (lsF n f)) (.int (k : Int)) = some (.int (f k)) := by
  rw [ixT (by rw [lsF_len]; exact h), lsF_at h]
theorem enum_T (p : List Int) : enumD 0 (p.map .int) = (List.range p.length).map fun k : Nat => D.tup [.int (k : Int), .int (at' p k)] := by
  rw [mapI_tab, enum_tab]
theorem pop_tab (n : Nat) (f : Nat → Int) : popO (.o (.lst (tab (n + 1) f))) = some (.int (f n), .lst (tab n f)) := by
  rw [← tab_snoc]
  unfold popO
  simp
theorem tab_lastIx (n : Nat) (f : Nat → Int) : dIx (.lst (tab (n + 1) f)) (.int (-1)) = some (.int (f n)) := by
  rw [← tab_snoc]; exact FL.atI_last _ _
theorem tab_nilB (n : Nat) (f : Nat → Int) : (tab n f).isEmpty = decide (n = 0) := by
  cases n with
  | zero => rfl
  | succ n => rw [← tab_snoc]; simp
/-- items made from 0, 1, .. m - 1 -/
theorem loopR {m : Nat} {it : AF} {b : GF} {body : SF} (enc : Nat → D) (E : Nat → FL.Env) (hit : it (E 0) = ret ((List.range m).map enc)) (hb : ∀ i, i < m → ∃ ρ1, b (enc i) (E i) = some ρ1 ∧ body ρ1 = ret (.nx (E (i + 1)))) : forS it b body (E 0) = ret (.nx (E m)) := by
  unfold FL.forS
  rw [hit, bnd_r, List.range_eq_range']
  have main : ∀ (n i : Nat), i + n = m → forL b body ((List.range' i n).map enc) (E i) = ret (.nx (E m)) := by
    intro n
    induction n with
    | zero => intro i h; rw [show i = m by omega]; rfl
    | succ n ih =>
      intro i h
      obtain ⟨ρ1, e1, e2⟩ := hb i (by omega)
      rw [List.range'_succ, List.map_cons, forL_cons, e1, opt_s, bnd_r, e2, bnd_r, loop_nx]
      exact ih (i + 1) (by omega)
  exact main m 0 (by omega)
theorem tabT (n : Nat) (f : Nat → Int) : .tup (tab n f) = T (lsF n f) := (T_tab n f).symm

end Lb
end
section
set_option maxHeartbeats 1000000
/-! LbD: dicts in plain mathematics. -/
namespace LbD
open PySem PySem.Spec PyProof.Rows L2 FL Lb
section
variable {α β : Type} [DecidableEq α]
def lk (l : List (α × β)) (k : α) : Option β := (l.find? fun x => decide (x.1 = k)).map (·.2)
def pt (l : List (α × β)) (k : α) (v : β) : List (α × β) :=
  if (l.any fun x => decide (x.1 = k)) = true then l.map (fun x => if x.1 = k then (x.1, v) else x) else l ++ [(k, v)]
def nd (l : List (α × β)) : Prop := (l.map (·.1)).Nodup
theorem lk_nil (k : α) : lk ([] : List (α × β)) k = none := rfl
theorem lk_pos {p : α × β} {r : List (α × β)} {k : α} (e : p.1 = k) : lk (p :: r) k = some p.2 := by simp [lk, List.find?_cons, e]
theorem lk_neg {p : α × β} {r : List (α × β)} {k : α} (e : ¬ p.1 = k) : lk (p :: r) k = lk r k := by simp [lk, List.find?_cons, e]
theorem lk_any (k : α) : ∀ l : List (α × β), (l.any fun x => decide (x.1 = k)) = (lk l k).isSome
  | [] => rfl
  | p :: r => by
    by_cases e : p.1 = k
    · rw [lk_pos e]; simp [e]
    · rw [lk_neg e, List.any_cons, lk_any k r]; simp [e]
theorem lk_mem {l : List (α × β)} {k : α} {v : β} (h : lk l k = some v) : (k, v) ∈ l := by
  unfold lk at h
  rw [Option.map_eq_some_iff] at h
  obtain ⟨p, h1, rfl⟩ := h
  have h2 := List.find?_some h1
  have h3 := List.mem_of_find?_eq_some h1
  simp only [decide_eq_true_eq] at h2
  rw [← h2]; exact h3
theorem lk_none {l : List (α × β)} {k : α} (h : lk l k = none) : k ∉ l.map (·.1) := by
  unfold lk at h
  rw [Option.map_eq_none_iff, List.find?_eq_none] at h
  intro hm
  rw [List.mem_map] at hm
  obtain ⟨p, h1, h2⟩ := hm
  exact h p h1 (by simp [h2])
theorem keys_pt {l : List (α × β)} {k : α} {v : β} : (pt l k v).map (·.1) = if (lk l k).isSome then l.map (·.1) else l.map (·.1) ++ [k] := by
  unfold pt
  rw [lk_any]
  by_cases h : (lk l k).isSome = true
  · rw [if_pos h, if_pos h, List.map_map]
    refine List.map_congr_left fun x _ => ?_
    show (if x.1 = k then (x.1, v) else x).1 = x.1
    split <;> rfl
  · rw [if_neg h, if_neg h, List.map_append]; rfl
theorem mem_pt {l : List (α × β)} {k x : α} {v : β} (h : x ∈ (pt l k v).map (·.1)) : x ∈ l.map (·.1) ∨ x = k := by
  rw [keys_pt] at h
  split at h
  · exact .inl h
  · rcases List.mem_append.mp h with h | h
    · exact .inl h
    · exact .inr (by simpa using h)
theorem nd_pt {l : List (α × β)} {k : α} {v : β} (h : nd l) : nd (pt l k v) := by
  unfold nd
  rw [keys_pt]
  split
  · exact h
  · rename_i hs
    rw [List.nodup_append]
    refine ⟨h, by simp, fun a ha b hb => ?_⟩
    have e : lk l k = none := by cases q : lk l k <;> simp [q] at hs ⊢
    rw [List.mem_singleton] at hb
    subst hb
    exact fun z => lk_none e (by rw [← z]; exact ha)
theorem len_pt (l : List (α × β)) (k : α) (v : β) : (pt l k v).length ≤ l.length + 1 := by
  unfold pt; split
  · simp
  · simp
/-- keys from a finite lot -/
theorem nd_len {l : List (α × β)} {L : List α} (h : nd l) (hs : ∀ k ∈ l.map (·.1), k ∈ L) : l.length ≤ L.length := by
  have := List.Nodup.length_le_of_subset h hs
  rwa [List.length_map] at this
def sw (w : α → Int) (l : List (α × Int)) : Int := (l.map fun x => x.2 * w x.1).sum
def ad (l : List (α × Int)) (k : α) (v : Int) : List (α × Int) := pt l k ((lk l k).getD 0 + v)
theorem sw_append (w : α → Int) (l m : List (α × Int)) : sw w (l ++ m) = sw w l + sw w m := by unfold sw; rw [List.map_append, List.sum_append]
theorem sw_cons (w : α → Int) (p : α × Int) (l : List (α × Int)) : sw w (p :: l) = p.2 * w p.1 + sw w l := rfl
theorem sw_repl (w : α → Int) {k : α} {v : Int} : ∀ {l : List (α × Int)}, k ∉ l.map (·.1) → l.map (fun x => if x.1 = k then (x.1, v) else x) = l
  | [], _ => rfl
  | p :: r, h => by
    rw [List.map_cons, List.mem_cons, not_or] at h
    rw [List.map_cons, if_neg (Ne.symm h.1), sw_repl w h.2]
theorem sw_put (w : α → Int) {k : α} {v u : Int} : ∀ {l : List (α × Int)}, nd l → lk l k = some u → sw w (l.map fun x => if x.1 = k then (x.1, v) else x) = sw w l + (v - u) * w k
  | [], _, h => by cases h
  | p :: r, hn, h => by
    unfold nd at hn
    rw [List.map_cons, List.nodup_cons] at hn
    by_cases e : p.1 = k
    · rw [lk_pos e] at h
      cases h
      rw [List.map_cons, if_pos e, sw_repl w (by rw [← e]; exact hn.1), sw_cons, sw_cons, e]
      show v * w k + sw w r = p.2 * w k + sw w r + (v - p.2) * w k
      rw [Int.sub_mul]; omega
    · rw [lk_neg e] at h
      rw [List.map_cons, if_neg e, sw_cons, sw_cons, sw_put w hn.2 h]; omega
theorem sw_ad (w : α → Int) {l : List (α × Int)} {k : α} {v : Int} (h : nd l) : sw w (ad l k v) = sw w l + v * w k := by
  unfold ad pt
  rw [lk_any]
  cases q : lk l k with
  | some u =>
    rw [if_pos (by rfl), sw_put w h q]
    simp only [Option.getD_some]
    rw [show u + v - u = v by omega]
  | none =>
    rw [if_neg (by simp), sw_append]
    simp [sw]
theorem nd_ad {l : List (α × Int)} {k : α} {v : Int} (h : nd l) : nd (ad l k v) := nd_pt h
theorem lk_repl (k j : α) (v : β) : ∀ l : List (α × β), lk (l.map fun x => if x.1 = k then (x.1, v) else x) j = (lk l j).map fun y => if j = k then v else y
  | [] => rfl
  | p :: r => by
    have hk : (if p.1 = k then (p.1, v) else p).1 = p.1 := by split <;> rfl
    rw [List.map_cons]
    by_cases e : p.1 = j
    · rw [lk_pos (hk.trans e), lk_pos e, Option.map_some]
      by_cases e2 : p.1 = k
      · rw [if_pos e2, if_pos (e.symm.trans e2)]
      · rw [if_neg e2, if_neg (fun z => e2 (e.trans z))]
    · rw [lk_neg (fun z => e (hk.symm.trans z)), lk_neg e, lk_repl k j v r]
theorem lk_snoc (k j : α) (v : β) : ∀ l : List (α × β), lk l k = none → lk (l ++ [(k, v)]) j = if j = k then some v else lk l j
  | [], _ => by
    by_cases e : j = k
    · rw [if_pos e]; exact lk_pos e.symm
    · rw [if_neg e]; exact lk_neg (Ne.symm e)
  | p :: r, h => by
    by_cases e1 : p.1 = k
    · rw [lk_pos e1] at h; cases h
    · rw [lk_neg e1] at h
      rw [List.cons_append]
      by_cases e2 : p.1 = j
      · rw [lk_pos e2, lk_pos e2, if_neg (fun z => e1 (e2.trans z))]
      · rw [lk_neg e2, lk_neg e2, lk_snoc k j v r h]
theorem lk_pt (l : List (α × β)) (k j : α) (v : β) : lk (pt l k v) j = if j = k then some v else lk l j := by
  unfold pt
  rw [lk_any]
  cases q : lk l k with
  | some u =>
    rw [if_pos (by rfl), lk_repl]
    by_cases e : j = k
    · rw [if_pos e, e, q, Option.map_some, if_pos rfl]
    · simp only [if_neg e, Option.map_id']
  | none => rw [if_neg (by simp), lk_snoc _ _ _ _ q]
theorem lk_ad (l : List (α × Int)) (k j : α) (v : Int) : (lk (ad l k v) j).getD 0 = if j = k then (lk l k).getD 0 + v else (lk l j).getD 0 := by
  unfold ad
  rw [lk_pt]
  split <;> rfl
end
/-! ### as data -/
structure KeyE {α : Type} [DecidableEq α] (t : Bool) (ek : α → D) : Prop where
  ok : ∀ k, okK t (ek k) = true
  has : ∀ a b, hasK t (ek a) (ek b) = decide (a = b)
def eP (x : Int × Int) : D := .tup [.int x.1, .int x.2]
theorem keyI : KeyE false D.int := ⟨fun _ => rfl, fun a b => by
  unfold hasK
  rw [if_neg (by decide)]
  simp [keyA]⟩
theorem keyP : KeyE true eP := ⟨fun _ => rfl, fun a b => by
  unfold hasK
  rw [if_pos rfl]
  obtain ⟨a1, a2⟩ := a
  obtain ⟨b1, b2⟩ := b
  simp [keyT, eP, keysA, keyA]⟩
theorem keysA_int : ∀ p : List Int, keysA (p.map .int) = some (p.map Sum.inl)
  | [] => rfl
  | x :: r => by simp only [List.map_cons, keysA, keyA, keysA_int r, Option.bind_some, Option.map_some]
theorem inl_inj : ∀ a b : List Int, (a.map (Sum.inl : Int → Key) = b.map Sum.inl) ↔ a = b := fun a b => by
  constructor
  · intro h
    exact (List.map_inj_right (fun x y z => Sum.inl.inj z)).mp h
  · intro h; rw [h]
theorem keyTL : KeyE true T := ⟨fun k => by unfold okK; rw [if_pos rfl]; simp [keyT, T, keysA_int], fun a b => by
  unfold hasK
  rw [if_pos rfl]
  simp only [keyT, T, keysA_int, Option.some.injEq, inl_inj]⟩
section
variable {α β : Type} [DecidableEq α] {t : Bool} {ek : α → D} {ev : β → D}
def eE (ek : α → D) (ev : β → D) (x : α × β) : D × D := (ek x.1, ev x.2)
theorem look_e (h : KeyE t ek) (k : α) : ∀ l : List (α × β), lookD t (l.map (eE ek ev)) (ek k) = (lk l k).map ev
  | [] => rfl
  | p :: r => by
    rw [List.map_cons]
    by_cases e : p.1 = k
    · rw [lookD_pos (by show hasK t (ek p.1) (ek k) = true; rw [h.has]; simp [e]), lk_pos e]; rfl
    · rw [lookD_neg (by show hasK t (ek p.1) (ek k) = false; rw [h.has]; simp [e]), lk_neg e, look_e h k r]
theorem put_e (h : KeyE t ek) (k : α) (v : β) (l : List (α × β)) : putD t (l.map (eE ek ev)) (ek k) (ev v) = (pt l k v).map (eE ek ev) := by
  unfold putD pt
  have e : (l.map (eE ek ev)).any (fun kv => hasK t kv.1 (ek k)) = l.any fun x => decide (x.1 = k) := by
    rw [List.any_map]
    congr 1
    funext x
    exact h.has x.1 k
  rw [e]
  split
  · rw [List.map_map, List.map_map]
    refine List.map_congr_left fun x _ => ?_
    show (if hasK t (ek x.1) (ek k) = true then (ek x.1, ev v) else eE ek ev x) = eE ek ev (if x.1 = k then (x.1, v) else x)
    rw [h.has]
    by_cases q : x.1 = k
    · rw [if_pos (by simp [q]), if_pos q]; rfl
    · rw [if_neg (by simp [q]), if_neg q]
  · rw [List.map_append]; rfl
def dD (t : Bool) (ek : α → D) (ev : β → D) (l : List (α × β)) : D := .dic t (l.map (eE ek ev))
theorem ixA_e (h : KeyE t ek) (k : α) (l : List (α × β)) : dIxA (dD t ek ev l) (ek k) = (lk l k).map ev := by
  show (if okK t (ek k) = true then lookD t (l.map (eE ek ev)) (ek k) else none) = _
  rw [if_pos (h.ok k), look_e h]
theorem inB_e (h : KeyE t ek) (k : α) (l : List (α × β)) : dInB (ek k) (dD t ek ev l) = some (.bl (lk l k).isSome) := by
  show (if okK t (ek k) = true then some (D.bl (lookD t (l.map (eE ek ev)) (ek k)).isSome) else none) = _
  rw [if_pos (h.ok k), look_e h, Option.isSome_map]
theorem get3_e (h : KeyE t ek) (k : α) (z : β) (l : List (α × β)) : dGet3 (dD t ek ev l) (ek k) (ev z) = some (ev ((lk l k).getD z)) := by
  show (if okK t (ek k) = true then some ((lookD t (l.map (eE ek ev)) (ek k)).getD (ev z)) else none) = _
  rw [if_pos (h.ok k), look_e h]
  cases lk l k <;> rfl
theorem putO_e (h : KeyE t ek) (k : α) (v : β) {l : List (α × β)} (hl : l.length < 16000000) : putO (.o (dD t ek ev l)) (ek k) (ev v) = some (dD t ek ev (pt l k v)) := by
  show (if (okK t (ek k) && decide ((l.map (eE ek ev)).length < sizeLine)) = true then some (D.dic t (putD t (l.map (eE ek ev)) (ek k) (ev v))) else none) = _
  rw [if_pos (by rw [h.ok k, List.length_map, Bool.true_and, decide_eq_true_eq, sizeLine_eq]; omega), put_e h]; rfl
theorem stD_e (h : KeyE t ek) (k : α) (v : β) {l : List (α × β)} (hl : l.length < 16000000) : stD t (l.map (eE ek ev)) (ek k) (ev v) = some ((pt l k v).map (eE ek ev)) := by
  unfold stD
  rw [if_pos (by rw [h.ok k, List.length_map, Bool.true_and, decide_eq_true_eq, sizeLine_eq]; omega), put_e h]
theorem keys_e (l : List (α × β)) : seqDA (dD t ek ev l) = some (l.map fun x => ek x.1) := by
  show some ((l.map (eE ek ev)).map (·.1)) = _
  rw [List.map_map]; rfl
theorem items_e (l : List (α × β)) : itemsD (dD t ek ev l) = some (l.map fun x => D.tup [ek x.1, ev x.2]) := by
  show some ((l.map (eE ek ev)).map FL.pairD) = _
  rw [List.map_map]; rfl
theorem len_e (l : List (α × β)) : aLenB [dD t ek ev l] = some (.int (l.length : Nat)) := by
  show some (D.int ((l.map (eE ek ev)).length : Nat)) = _
  rw [List.length_map]
theorem ne0_e {t2 : Bool} (l : List (α × β)) : dNeB (dD t ek ev l) (.dic t2 []) = some (.bl (!l.isEmpty)) := by
  show (if (l.map (eE ek ev)).length = 0 ∨ ([] : List (D × D)).length = 0 then some (D.bl (!((l.map (eE ek ev)).length == 0))) else none) = _
  rw [if_pos (.inr rfl)]
  cases l <;> rfl
theorem nil_e : D.dic t [] = dD t ek ev ([] : List (α × β)) := rfl
end
theorem dIxA_l (l : List D) (k : D) : dIxA (.lst l) k = dIx (.lst l) k := Eq.symm rfl
theorem dIxA_t (l : List D) (k : D) : dIxA (.tup l) k = dIx (.tup l) k := Eq.symm rfl
theorem dInB_l (k : D) (l : List D) : dInB k (.lst l) = dInA k (.lst l) := Eq.symm rfl
theorem dInB_t (k : D) (l : List D) : dInB k (.tup l) = dInA k (.tup l) := Eq.symm rfl
theorem aLenB_l (l : List D) : aLenB [.lst l] = some (.int l.length) := Eq.symm rfl
theorem aLenB_t (l : List D) : aLenB [.tup l] = some (.int l.length) := Eq.symm rfl
theorem dEqB_i (a b : Int) : dEqB (.int a) (.int b) = dEq (.int a) (.int b) := Eq.symm rfl
theorem dNeB_i (a b : Int) : dNeB (.int a) (.int b) = dNe (.int a) (.int b) := Eq.symm rfl
theorem dEqB_t (a : List D) (b : D) : dEqB (.tup a) b = dEq (.tup a) b := by cases b <;> rfl
theorem dNeB_t (a : List D) (b : D) : dNeB (.tup a) b = dNe (.tup a) b := by cases b <;> rfl
theorem dEqB_l (a : List D) (b : D) : dEqB (.lst a) b = dEq (.lst a) b := by cases b <;> rfl
theorem dNeB_l (a : List D) (b : D) : dNeB (.lst a) b = dNe (.lst a) b := by cases b <;> rfl
theorem seqDA_l (l : List D) : seqDA (.lst l) = some l := Eq.symm rfl
theorem seqDA_t (l : List D) : seqDA (.tup l) = some l := Eq.symm rfl
theorem putO_l (l : List D) (k v : D) : putO (.o (.lst l)) k v = setIO (.o (.lst l)) k v := Eq.symm rfl
/-! loops -/
theorem forF {α σ : Type} {it : AF} {b : GF} {body : SF} (E : σ → FL.Env) (step : σ → α → σ) (I : σ → Prop) {s0 : σ} (l : List α) (enc : α → D) (hit : it (E s0) = ret (l.map enc)) (h0 : I s0)
    (hs : ∀ a ∈ l, ∀ s, I s → ∃ ρ1, b (enc a) (E s) = some ρ1 ∧ body ρ1 = ret (.nx (E (step s a))) ∧ I (step s a)) : forS it b body (E s0) = ret (.nx (E (l.foldl step s0))) ∧ I (l.foldl step s0) := by
  unfold FL.forS
  rw [hit, bnd_r]
  have main : ∀ (r : List α) (s : σ), (∀ a ∈ r, a ∈ l) → I s → forL b body (r.map enc) (E s) = ret (.nx (E (r.foldl step s))) ∧ I (r.foldl step s) := by
    intro r
    induction r with
    | nil => intro s _ h; exact ⟨rfl, h⟩
    | cons a r ih =>
      intro s hm h
      obtain ⟨ρ1, e1, e2, i2⟩ := hs a (hm a (by simp)) s h
      rw [List.map_cons, forL_cons, e1, opt_s, bnd_r, e2, bnd_r, loop_nx]
      exact ih _ (fun x hx => hm x (by simp [hx])) i2
  exact main l s0 (fun _ h => h) h0
/-- the same, by what the loop comes to -/
theorem forF' {α σ : Type} {it : AF} {b : GF} {body : SF} (E : σ → FL.Env) (step : σ → α → σ) (I : σ → Prop) {s0 : σ} {ρ0 : FL.Env} (l : List α) (enc : α → D) (hit : it ρ0 = ret (l.map enc)) (h0 : I s0) (hE : ∀ d, b d ρ0 = b d (E s0)) (hne : l = [] → ρ0 = E s0)
    (hs : ∀ a ∈ l, ∀ s, I s → ∃ ρ1, b (enc a) (E s) = some ρ1 ∧ body ρ1 = ret (.nx (E (step s a))) ∧ I (step s a)) : forS it b body ρ0 = ret (.nx (E (l.foldl step s0))) ∧ I (l.foldl step s0) := by
  have h := forF (it := fun _ => ret (l.map enc)) (b := b) (body := body) E step I l enc rfl h0 hs
  refine ⟨?_, h.2⟩
  rw [← h.1]
  unfold FL.forS
  rw [hit, bnd_r, bnd_r]
  cases l with
  | nil => rw [hne rfl]
  | cons a l => rw [List.map_cons, forL_cons, forL_cons, hE]
theorem sortB_e {β : Type} {ev : β → D} {l : List (Int × β)} (h : l.length < 64) : aSortB [dD false D.int ev l] = some (.lst ((srtI (l.map (·.1))).map .int)) := by
  show (if (l.map (eE D.int ev)).length < 64 then (intsOf ((l.map (eE D.int ev)).map (·.1))).map fun ns => D.lst ((srtI ns).map .int) else none) = _
  rw [List.length_map, if_pos h, List.map_map, show ((fun x : D × D => x.1) ∘ eE D.int ev) = fun x : Int × β => D.int x.1 from rfl]
  have := intsOf_map (l.map (·.1))
  rw [List.map_map] at this
  rw [show (l.map fun x => D.int x.1) = l.map (D.int ∘ fun x => x.1) from rfl, this]; rfl
theorem lk_key {α β : Type} [DecidableEq α] {l : List (α × β)} {k : α} (h : k ∈ l.map (·.1)) : ∃ v, lk l k = some v := by
  cases q : lk l k with
  | some v => exact ⟨v, rfl⟩
  | none => exact (lk_none q h).elim
/-! tallies -/
def tal (L : List Int) : List (Int × Int) := L.foldl (fun l x => ad l x 1) []
def tbl (L : List Int) : List (Int × Int) := (srtI ((tal L).map (·.1))).map fun x => (x, (lk (tal L) x).getD 0)
theorem gdPairs (L : List (Int × Int)) (h : L.length < 1000000) : gd 59 (.tup (L.map eP)) = true := by
  simp only [gd, Bool.and_eq_true, decide_eq_true_eq, List.length_map, sizeLine_eq, List.all_map, List.all_eq_true]
  refine ⟨fun p hp => ?_, by omega⟩
  show gd 58 (eP p) = true
  simp [gd, eP, sizeLine_eq]
/-! dict comprehensions -/
theorem dcE_fold {α κ β : Type} [DecidableEq κ] {t : Bool} {ek : κ → D} {ev : β → D} (h : KeyE t ek) {it : AF} {b : GF} {kx vx : EF} {vs : List Nat} {ρ : FL.Env} (enc : α → D) (key : α → κ) (val : α → β) (l : List α) (hit : it ρ = ret (l.map enc)) (hz : l.length < 16000000)
    (hs : ∀ a ∈ l, ∃ ρ1, b (enc a) (fgt vs ρ) = some ρ1 ∧ kx ρ1 = ret (ek (key a)) ∧ vx ρ1 = ret (ev (val a))) : dcE t it b yesB kx vx vs ρ = ret (dD t ek ev (l.foldl (fun d a => pt d (key a) (val a)) [])) := by
  unfold dcE
  rw [hit, bnd_r]
  have main : ∀ (r : List α) (acc : List (κ × β)), (∀ a ∈ r, a ∈ l) → acc.length + r.length < 16000000 → dcL t b yesB kx vx (fgt vs ρ) (r.map enc) (acc.map (eE ek ev)) = ret ((r.foldl (fun d a => pt d (key a) (val a)) acc).map (eE ek ev)) := by
    intro r
    induction r with
    | nil => intro acc _ _; rfl
    | cons a r ih =>
      intro acc hm hz
      rw [List.length_cons] at hz
      obtain ⟨ρ1, e1, e2, e3⟩ := hs a (hm a (by simp))
      have hl := len_pt acc (key a) (val a)
      rw [List.map_cons, dcL, e1, opt_s, bnd_r]
      show bnd (ret true) _ = _
      rw [bnd_r, cond_true, e2, bnd_r, e3, bnd_r, stD_e h _ _ (by omega), opt_s, bnd_r, ih _ (fun x hx => hm x (by simp [hx])) (by omega)]
      rfl
  have := main l [] (fun _ h => h) (by simpa using hz)
  rw [List.map_nil] at this
  rw [this, bnd_r]; rfl
/-! comprehensions with draws -/
theorem lcE_tr {it : AF} {b : GF} {el : EF} {vs : List Nat} {ρ : FL.Env} {l : List D} {Q : D → Prop} (hit : it ρ = ret l) (hz : l.length ≤ sizeLine) (h : ∀ d ∈ l, ∃ ρ1, b d (fgt vs ρ) = some ρ1 ∧ Tr (el ρ1) Q) : Tr (lcE it b yesB el vs ρ) (fun d => ∃ ds, d = .lst ds ∧ ds.length = l.length ∧ ∀ x ∈ ds, Q x) := by
  unfold lcE
  rw [hit, bnd_r, if_pos hz]
  have main : ∀ r : List D, (∀ d ∈ r, d ∈ l) → Tr (lcL b yesB el (fgt vs ρ) r) (fun ds => ds.length = r.length ∧ ∀ x ∈ ds, Q x) := by
    intro r
    induction r with
    | nil => intro _; exact Tr.ret ⟨rfl, by simp⟩
    | cons d r ih =>
      intro hr
      obtain ⟨ρ1, e1, e2⟩ := h d (hr d (by simp))
      rw [lcL, e1]
      simp only [opt_s, bnd_r, yesB, cond_true]
      refine Tr.bnd e2 fun x hx => ?_
      refine Tr.bnd (ih fun y hy => hr y (by simp [hy])) ?_
      rintro ds ⟨h1, h2⟩
      refine Tr.ret ⟨by simp [h1], fun y hy => ?_⟩
      rcases List.mem_cons.mp hy with rfl | hy
      · exact hx
      · exact h2 y hy
  refine Tr.bnd (main l fun _ h => h) ?_
  rintro ds ⟨h1, h2⟩
  exact Tr.ret ⟨ds, rfl, h1, h2⟩
theorem flatI (n : Nat) (x : D) : (List.replicate n [x]).flatten = List.replicate n x := by
  induction n with
  | zero => rfl
  | succ n ih => rw [List.replicate_succ, List.replicate_succ, List.flatten_cons, ih]; rfl
theorem dMulT_rep {n : Nat} (h : n ≤ 1000) (x : Int) : dMulT (.tup [.int x]) (.int (n : Int)) = some (T (List.replicate n x)) := by
  show (if (decide ([D.int x].length ≤ 1000) && decide ((n : Int) ≤ 1000) && decide (-(2 ^ 63) ≤ (n : Int))) = true then some (D.tup (List.replicate (n : Int).toNat [D.int x]).flatten) else none) = _
  rw [if_pos (by rw [decide_eq_true (show (n : Int) ≤ 1000 by omega), decide_eq_true (show -(2 ^ 63) ≤ (n : Int) by omega)]; rfl), flatI, Int.toNat_natCast]
  unfold T
  rw [List.map_replicate]
theorem ints_of {P : Int → Prop} : ∀ {ds : List D}, (∀ d ∈ ds, ∃ i, d = .int i ∧ P i) → ∃ ns : List Int, ds = ns.map .int ∧ ∀ i ∈ ns, P i
  | [], _ => ⟨[], rfl, by simp⟩
  | d :: ds, h => by
    obtain ⟨i, rfl, hi⟩ := h d (by simp)
    obtain ⟨ns, rfl, hn⟩ := ints_of (P := P) (ds := ds) fun e he => h e (List.mem_cons_of_mem _ he)
    exact ⟨i :: ns, rfl, fun j hj => by rcases List.mem_cons.mp hj with rfl | hj; exact hi; exact hn j hj⟩
theorem lastD_get {p : List Int} (h : p ≠ []) : ∃ q, p = q ++ [p.getLastD 0] := by
  refine ⟨p.dropLast, ?_⟩
  rw [List.getLastD_eq_getLast?, List.getLast?_eq_some_getLast h]
  exact (List.dropLast_concat_getLast h).symm
theorem ix_last {p : List Int} (h : p ≠ []) : dIx (T p) (.int (-1)) = some (.int (p.getLastD 0)) := by
  obtain ⟨q, e⟩ := lastD_get h
  generalize p.getLastD 0 = z at *
  subst e
  exact ixT_last q z
end LbD
end
section
/-! PS: series as functions, their operators: times 1 - x^k (W), times 1 + x^k (S), divided by 1 - x^k (V). -/
namespace PS
def W (k : Nat) (f : Nat → Int) (t : Nat) : Int := f t - if k ≤ t then f (t - k) else 0
def S (k : Nat) (f : Nat → Int) (t : Nat) : Int := f t + if k ≤ t then f (t - k) else 0
def V (k : Nat) (f : Nat → Int) (t : Nat) : Int := f t + if h : 0 < k ∧ k ≤ t then V k f (t - k) else 0
termination_by t
decreasing_by omega
/-- moved up by k -/
def Sh (k : Nat) (f : Nat → Int) (t : Nat) : Int := if k ≤ t then f (t - k) else 0
/-- 1 -/
def one (t : Nat) : Int := if t = 0 then 1 else 0
theorem V_eq {k : Nat} (hk : 0 < k) (f : Nat → Int) (t : Nat) : V k f t = f t + if k ≤ t then V k f (t - k) else 0 := by
  rw [V]
  by_cases h : k ≤ t
  · rw [dif_pos ⟨hk, h⟩, if_pos h]
  · rw [dif_neg (fun z => h z.2), if_neg h]
theorem W_V {k : Nat} (hk : 0 < k) (f : Nat → Int) : W k (V k f) = f := by
  funext t
  unfold W
  rw [V_eq hk f t]
  omega
theorem V_uniq {k : Nat} (hk : 0 < k) {f g : Nat → Int} (h : W k g = f) : g = V k f := by
  funext t
  induction t using Nat.strongRecOn with
  | ind t ih =>
    have h1 : W k g t = f t := by rw [h]
    unfold W at h1
    rw [V_eq hk]
    by_cases ht : k ≤ t
    · rw [if_pos ht] at h1 ⊢
      rw [← ih (t - k) (by omega)]; omega
    · rw [if_neg ht] at h1 ⊢; omega
theorem V_W {k : Nat} (hk : 0 < k) (f : Nat → Int) : V k (W k f) = f := (V_uniq hk rfl).symm
theorem sh_comm (j k : Nat) (f : Nat → Int) : Sh j (Sh k f) = Sh k (Sh j f) := by
  funext t
  unfold Sh
  by_cases h1 : j ≤ t
  · rw [if_pos h1]
    by_cases h2 : k ≤ t - j
    · rw [if_pos h2, if_pos (by omega), if_pos (by omega), Nat.sub_right_comm]
    · rw [if_neg h2]
      by_cases h3 : k ≤ t
      · rw [if_pos h3, if_neg (by omega)]
      · rw [if_neg h3]
  · rw [if_neg h1]
    by_cases h3 : k ≤ t
    · rw [if_pos h3, if_neg (by omega)]
    · rw [if_neg h3]
theorem W_sh (k : Nat) (f : Nat → Int) (t : Nat) : W k f t = f t - Sh k f t := rfl
theorem S_sh (k : Nat) (f : Nat → Int) (t : Nat) : S k f t = f t + Sh k f t := rfl
theorem Sh_W (j k : Nat) (f : Nat → Int) : Sh j (W k f) = W k (Sh j f) := by
  funext t
  rw [W_sh, sh_comm k j f]
  unfold Sh W
  by_cases h : j ≤ t
  · simp only [if_pos h]
  · simp only [if_neg h, Int.sub_self, Int.add_zero]
theorem Sh_S (j k : Nat) (f : Nat → Int) : Sh j (S k f) = S k (Sh j f) := by
  funext t
  rw [S_sh, sh_comm k j f]
  unfold Sh S
  by_cases h : j ≤ t
  · simp only [if_pos h]
  · simp only [if_neg h, Int.sub_self, Int.add_zero]
theorem W_W (j k : Nat) (f : Nat → Int) : W j (W k f) = W k (W j f) := by
  funext t
  rw [W_sh j, W_sh k, W_sh k (W j f), W_sh j, Sh_W, Sh_W, W_sh, W_sh, sh_comm]
  omega
theorem S_S (j k : Nat) (f : Nat → Int) : S j (S k f) = S k (S j f) := by
  funext t
  rw [S_sh j, S_sh k, S_sh k (S j f), S_sh j, Sh_S, Sh_S, S_sh, S_sh, sh_comm]
  omega
theorem W_S (j k : Nat) (f : Nat → Int) : W j (S k f) = S k (W j f) := by
  funext t
  rw [W_sh j, S_sh k, S_sh k (W j f), W_sh j, Sh_S, Sh_W, S_sh, W_sh, sh_comm]
  omega
theorem V_Wc {j : Nat} (hj : 0 < j) (k : Nat) (f : Nat → Int) : V j (W k f) = W k (V j f) := (V_uniq hj (by rw [W_W, W_V hj])).symm
theorem V_Sc {j : Nat} (hj : 0 < j) (k : Nat) (f : Nat → Int) : V j (S k f) = S k (V j f) := (V_uniq hj (by rw [W_S, W_V hj])).symm
theorem V_Shc {j : Nat} (hj : 0 < j) (k : Nat) (f : Nat → Int) : V j (Sh k f) = Sh k (V j f) := (V_uniq hj (by rw [← Sh_W, W_V hj])).symm
theorem V_Vc {j k : Nat} (hj : 0 < j) (hk : 0 < k) (f : Nat → Int) : V j (V k f) = V k (V j f) := by
  refine V_uniq hk ?_
  rw [← V_Wc hj, W_V hk]
/-! agreeing up to N -/
def Ag (N : Nat) (f g : Nat → Int) : Prop := ∀ t, t < N → f t = g t
theorem Ag.refl {N : Nat} (f : Nat → Int) : Ag N f f := fun _ _ => rfl
theorem Ag.symm {N : Nat} {f g : Nat → Int} (h : Ag N f g) : Ag N g f := fun t ht => (h t ht).symm
theorem Ag.trans {N : Nat} {f g h : Nat → Int} (h1 : Ag N f g) (h2 : Ag N g h) : Ag N f h := fun t ht => (h1 t ht).trans (h2 t ht)
theorem Ag.mono {N M : Nat} {f g : Nat → Int} (h : Ag N f g) (e : M ≤ N) : Ag M f g := fun t ht => h t (by omega)
theorem Ag.sh {N : Nat} {f g : Nat → Int} (h : Ag N f g) (k : Nat) : Ag N (Sh k f) (Sh k g) := fun t ht => by
  unfold Sh; split
  · exact h _ (by omega)
  · rfl
theorem Ag.w {N : Nat} {f g : Nat → Int} (h : Ag N f g) (k : Nat) : Ag N (W k f) (W k g) := fun t ht => by
  rw [W_sh, W_sh, h t ht, h.sh k t ht]
theorem Ag.s {N : Nat} {f g : Nat → Int} (h : Ag N f g) (k : Nat) : Ag N (S k f) (S k g) := fun t ht => by
  rw [S_sh, S_sh, h t ht, h.sh k t ht]
theorem Ag.v {N : Nat} {f g : Nat → Int} (h : Ag N f g) (k : Nat) : Ag N (V k f) (V k g) := fun t => by
  induction t using Nat.strongRecOn with
  | ind t ih =>
    intro ht
    by_cases hk : 0 < k
    · rw [V_eq hk f, V_eq hk g, h t ht]
      by_cases h2 : k ≤ t
      · rw [if_pos h2, if_pos h2, ih (t - k) (by omega) (by omega)]
      · rw [if_neg h2, if_neg h2]
    · unfold V
      rw [dif_neg (fun z => hk z.1), dif_neg (fun z => hk z.1), h t ht]
theorem v_high {N k : Nat} (f : Nat → Int) (h : N ≤ k) : Ag N (V k f) f := fun t ht => by
  rw [V, dif_neg (by omega)]; omega
theorem w_high {N k : Nat} (f : Nat → Int) (h : N ≤ k) : Ag N (W k f) f := fun t ht => by
  unfold W; rw [if_neg (by omega)]; omega
theorem s_high {N k : Nat} (f : Nat → Int) (h : N ≤ k) : Ag N (S k f) f := fun t ht => by
  unfold S; rw [if_neg (by omega)]; omega
theorem v_low (k : Nat) (f : Nat → Int) {t : Nat} (h : t < k) : V k f t = f t := by
  rw [V, dif_neg (by omega)]; omega
/-! lists, for the kernel -/
def lst (N : Nat) (f : Nat → Int) : List Int := (List.range N).map f
theorem lst_len (N : Nat) (f : Nat → Int) : (lst N f).length = N := by simp [lst]
theorem lst_get (N : Nat) (f : Nat → Int) {i : Nat} (h : i < N) : (lst N f)[i]? = some (f i) := by simp [lst, h]
theorem lst_none (N : Nat) (f : Nat → Int) {i : Nat} (h : N ≤ i) : (lst N f)[i]? = none := List.getElem?_eq_none (by rw [lst_len]; exact h)
theorem lst_eq {N : Nat} {f g : Nat → Int} (h : lst N f = lst N g) : Ag N f g := fun t ht => by
  have := congrArg (fun l => l[t]?) h
  simp only [lst_get N f ht, lst_get N g ht, Option.some.injEq] at this
  exact this
theorem Ag.lst {N : Nat} {f g : Nat → Int} (h : Ag N f g) : PS.lst N f = PS.lst N g := by
  unfold PS.lst
  exact List.map_congr_left fun t ht => h t (List.mem_range.mp ht)
def lW (k : Nat) (l : List Int) : List Int := List.zipWith (fun a b => a - b) l (List.replicate k 0 ++ l)
def lS (k : Nat) (l : List Int) : List Int := List.zipWith (fun a b => a + b) l (List.replicate k 0 ++ l)
theorem sh_get {N k i : Nat} (f : Nat → Int) (h : i < N) : (List.replicate k 0 ++ lst N f)[i]? = some (Sh k f i) := by
  rw [List.getElem?_append]
  rw [List.length_replicate]
  unfold Sh
  by_cases hk : k ≤ i
  · rw [if_neg (by omega), lst_get N f (by omega), if_pos hk]
  · rw [if_pos (by omega), if_neg hk, List.getElem?_replicate, if_pos (by omega)]
theorem lW_eq (N k : Nat) (f : Nat → Int) : lst N (W k f) = lW k (lst N f) := by
  apply List.ext_getElem?
  intro i
  unfold lW
  rw [List.getElem?_zipWith]
  by_cases h : i < N
  · rw [lst_get _ _ h, lst_get _ _ h, sh_get f h, W_sh]
  · rw [lst_none _ _ (by omega), lst_none _ _ (by omega)]
theorem lS_eq (N k : Nat) (f : Nat → Int) : lst N (S k f) = lS k (lst N f) := by
  apply List.ext_getElem?
  intro i
  unfold lS
  rw [List.getElem?_zipWith]
  by_cases h : i < N
  · rw [lst_get _ _ h, lst_get _ _ h, sh_get f h, S_sh]
  · rw [lst_none _ _ (by omega), lst_none _ _ (by omega)]
def lVgo : Nat → Nat → List Int → List Int → List Int
  | 0, _, _, _ => []
  | _ + 1, _, _, [] => []
  | n + 1, k, prev, x :: r =>
    (fun c => c ++ lVgo n k c ((x :: r).drop k)) (List.zipWith (fun a b => a + b) ((x :: r).take k) prev)
def lV (k : Nat) (l : List Int) : List Int := lVgo l.length k (List.replicate k 0) l
/-- f from s on, n of them -/
def seg (s n : Nat) (f : Nat → Int) : List Int := (List.range n).map fun i => f (s + i)
theorem seg_len (s n : Nat) (f : Nat → Int) : (seg s n f).length = n := by simp [seg]
theorem seg_get {s n i : Nat} (f : Nat → Int) (h : i < n) : (seg s n f)[i]? = some (f (s + i)) := by simp [seg, h]
theorem seg_take (s n m : Nat) (f : Nat → Int) : (seg s n f).take m = seg s (min m n) f := by
  unfold seg; rw [← List.map_take, List.take_range]
theorem seg_drop (s n m : Nat) (f : Nat → Int) : (seg s n f).drop m = seg (s + m) (n - m) f := by
  apply List.ext_getElem?
  intro i
  rw [List.getElem?_drop]
  by_cases h : i < n - m
  · rw [seg_get f (by omega), seg_get f h]; congr 2; omega
  · rw [List.getElem?_eq_none (by rw [seg_len]; omega), List.getElem?_eq_none (by rw [seg_len]; omega)]
theorem seg_app (s n m : Nat) (f : Nat → Int) : seg s n f ++ seg (s + n) m f = seg s (n + m) f := by
  apply List.ext_getElem?
  intro i
  rw [List.getElem?_append, seg_len]
  by_cases h : i < n
  · rw [if_pos h, seg_get f h, seg_get f (by omega)]
  · rw [if_neg h]
    by_cases h2 : i < n + m
    · rw [seg_get f (by omega), seg_get f h2]; congr 2; omega
    · rw [List.getElem?_eq_none (by rw [seg_len]; omega), List.getElem?_eq_none (by rw [seg_len]; omega)]
theorem lVgo_eq {k : Nat} (hk : 0 < k) (f : Nat → Int) : ∀ (n s m : Nat) (prev : List Int), m ≤ n → k ≤ prev.length ∨ m ≤ prev.length → (∀ i, i < k → i < m → prev[i]? = some (if k ≤ s + i then V k f (s + i - k) else 0)) → lVgo n k prev (seg s m f) = seg s m (V k f)
  | 0, s, m, prev, hm, _, _ => by
    have : m = 0 := by omega
    subst this; rfl
  | n + 1, s, 0, prev, hm, _, _ => rfl
  | n + 1, s, m + 1, prev, hm, hl, hp => by
    have e0 : seg s (m + 1) f = f s :: seg (s + 1) m f := by
      unfold seg
      rw [List.range_succ_eq_map, List.map_cons, List.map_map]
      congr 1
      apply List.map_congr_left
      intro i _
      simp only [Function.comp]
      congr 1; omega
    have ec : List.zipWith (fun a b => a + b) ((seg s (m + 1) f).take k) prev = seg s (min k (m + 1)) (V k f) := by
      apply List.ext_getElem?
      intro i
      rw [List.getElem?_zipWith, seg_take]
      by_cases h : i < min k (m + 1)
      · rw [seg_get f h, seg_get _ h, hp i (by omega) (by omega)]
        show some (f (s + i) + _) = _
        rw [V_eq hk f (s + i)]
      · rw [List.getElem?_eq_none (l := seg s (min k (m + 1)) f) (by rw [seg_len]; omega), List.getElem?_eq_none (l := seg s (min k (m + 1)) (V k f)) (by rw [seg_len]; omega)]
    have step : lVgo (n + 1) k prev (seg s (m + 1) f) = List.zipWith (fun a b => a + b) ((seg s (m + 1) f).take k) prev ++ lVgo n k (List.zipWith (fun a b => a + b) ((seg s (m + 1) f).take k) prev) ((seg s (m + 1) f).drop k) := by
      rw [e0]; rfl
    rw [step, ec, seg_drop]
    by_cases hkm : k ≤ m + 1
    · rw [show min k (m + 1) = k by omega, lVgo_eq hk f n (s + k) (m + 1 - k) _ (by omega) (by rw [seg_len]; omega) fun i h1 h2 => ?_, seg_app, show k + (m + 1 - k) = m + 1 by omega]
      rw [seg_get _ h1, if_pos (by omega)]
      congr 2; omega
    · rw [show min k (m + 1) = m + 1 by omega, show m + 1 - k = 0 by omega]
      have : lVgo n k (seg s (m + 1) (V k f)) (seg (s + k) 0 f) = [] := by cases n <;> rfl
      rw [this, List.append_nil]
theorem lst_seg (N : Nat) (f : Nat → Int) : lst N f = seg 0 N f := by
  unfold lst seg
  apply List.map_congr_left
  intro i _
  rw [Nat.zero_add]
theorem lV_eq {k : Nat} (hk : 0 < k) (N : Nat) (f : Nat → Int) : lst N (V k f) = lV k (lst N f) := by
  unfold lV
  rw [lst_len, lst_seg, lst_seg, lVgo_eq hk f N 0 N _ (Nat.le_refl _) (by rw [List.length_replicate]; omega) fun i h1 _ => ?_]
  rw [List.getElem?_replicate, if_pos h1, if_neg (by omega)]
def lSh (k : Nat) (l : List Int) : List Int := (List.replicate k 0 ++ l).take l.length
theorem lSh_eq (N k : Nat) (f : Nat → Int) : lst N (Sh k f) = lSh k (lst N f) := by
  apply List.ext_getElem?
  intro i
  unfold lSh
  rw [List.getElem?_take, lst_len]
  by_cases h : i < N
  · rw [if_pos h, sh_get f h, lst_get _ _ h]
  · rw [if_neg h, lst_none _ _ (by omega)]
def lone : Nat → List Int
  | 0 => []
  | n + 1 => 1 :: List.replicate n 0
theorem lone_eq (N : Nat) : lst N one = lone N := by
  cases N with
  | zero => rfl
  | succ n =>
    unfold lst lone
    rw [List.range_succ_eq_map, List.map_cons, List.map_map]
    congr 1
    apply List.ext_getElem?
    intro i
    by_cases h : i < n
    · rw [List.getElem?_replicate, if_pos h, List.getElem?_map, List.getElem?_range h]; rfl
    · rw [List.getElem?_eq_none (by rw [List.length_map, List.length_range]; omega), List.getElem?_eq_none (by rw [List.length_replicate]; omega)]
end PS
end
section
/-! GP: Gaussian polynomials as series. -/
namespace GP
open PS
def ad (f g : Nat → Int) (t : Nat) : Int := f t + g t
def Gr (g : Nat → Nat → Int) : Nat → Nat → Int
  | 0 => one
  | w + 1 => ad (Sh (w + 1) (g (w + 1))) (Gr g w)
def G : Nat → Nat → Nat → Int
  | 0 => fun _ => one
  | a + 1 => Gr (G a)
theorem G0 (w : Nat) : G 0 w = one := rfl
theorem Gz (a : Nat) : G a 0 = one := by cases a <;> rfl
theorem Gs (a w : Nat) : G (a + 1) (w + 1) = ad (Sh (w + 1) (G a (w + 1))) (G (a + 1) w) := rfl
theorem sh_sh (j k : Nat) (f : Nat → Int) : Sh j (Sh k f) = Sh (j + k) f := by
  funext t
  unfold Sh
  by_cases h : j ≤ t
  · rw [if_pos h]
    by_cases h2 : k ≤ t - j
    · rw [if_pos h2, if_pos (by omega), Nat.sub_sub]
    · rw [if_neg h2, if_neg (by omega)]
  · rw [if_neg h, if_neg (by omega)]
theorem w_ad (k : Nat) (f g : Nat → Int) : W k (ad f g) = ad (W k f) (W k g) := by
  funext t
  unfold ad W
  by_cases h : k ≤ t
  · simp only [if_pos h]; omega
  · simp only [if_neg h]; omega
theorem sh_w (j k : Nat) (f : Nat → Int) (t : Nat) : Sh j (W k f) t = Sh j f t - Sh (j + k) f t := by
  rw [← sh_sh]
  unfold Sh W
  by_cases h : j ≤ t
  · simp only [if_pos h]
  · simp only [if_neg h]; omega
theorem sh_ad (j : Nat) (f g : Nat → Int) : Sh j (ad f g) = ad (Sh j f) (Sh j g) := by
  funext t
  unfold Sh ad
  by_cases h : j ≤ t
  · simp only [if_pos h]
  · simp only [if_neg h]; rfl
/-- both rules -/
theorem IJ : ∀ a : Nat, (∀ b, W (b + 1) (G a (b + 1)) = W (a + b + 1) (G a b)) ∧ (∀ b, W (a + 1) (G (a + 1) b) = W (a + b + 1) (G a b)) := by
  have step : ∀ a, (∀ b, W (b + 1) (G a (b + 1)) = W (a + b + 1) (G a b)) → ∀ b, W (a + 1) (G (a + 1) b) = W (a + b + 1) (G a b) := by
    intro a hJ b
    induction b with
    | zero => rw [Gz, Gz]
    | succ b ih =>
      rw [Gs, w_ad, ← Sh_W, ih, ← hJ b]
      funext t
      show Sh (b + 1) (W (a + 1) (G a (b + 1))) t + W (b + 1) (G a (b + 1)) t = _
      rw [sh_w, W_sh, W_sh, show a + (b + 1) + 1 = b + 1 + (a + 1) by omega]
      omega
  intro a
  induction a with
  | zero =>
    have hJ : ∀ b, W (b + 1) (G 0 (b + 1)) = W (0 + b + 1) (G 0 b) := fun b => by rw [G0, G0, Nat.zero_add]
    exact ⟨hJ, step 0 hJ⟩
  | succ a ih =>
    have hJ : ∀ b, W (b + 1) (G (a + 1) (b + 1)) = W (a + 1 + b + 1) (G (a + 1) b) := fun b => by
      rw [Gs, w_ad, ← Sh_W, ih.1 b, ← ih.2 b]
      funext t
      show Sh (b + 1) (W (a + 1) (G (a + 1) b)) t + W (b + 1) (G (a + 1) b) t = _
      rw [sh_w, W_sh, W_sh, show a + 1 + b + 1 = b + 1 + (a + 1) by omega]
      omega
    exact ⟨hJ, step (a + 1) hJ⟩
/-- by products and quotients -/
theorem G_VW (a b : Nat) : V (a + 1) (W (b + (a + 1)) (G a b)) = G (a + 1) b := by
  have := (IJ a).2 b
  rw [show a + b + 1 = b + (a + 1) by omega] at this
  rw [← this, V_W (by omega)]
theorem G_symm : ∀ b a : Nat, G a b = G b a
  | 0, a => by rw [Gz, G0]
  | b + 1, a => by
    have h1 := (IJ a).1 b
    have h2 := (IJ b).2 a
    rw [G_symm b a, show a + b + 1 = b + a + 1 by omega, ← h2] at h1
    have := congrArg (V (b + 1)) h1
    rw [V_W (by omega), V_W (by omega)] at this
    exact this
theorem Gs' (a w : Nat) : G (a + 1) (w + 1) = ad (Sh (a + 1) (G (a + 1) w)) (G a (w + 1)) := by
  rw [G_symm (w + 1) (a + 1), Gs, G_symm (a + 1) w, G_symm a (w + 1)]
theorem one_pos {t : Nat} (h : t ≠ 0) : one t = 0 := by unfold one; rw [if_neg h]
theorem G_deg : ∀ (a b t : Nat), a * b < t → G a b t = 0
  | 0, b, t, h => by rw [G0]; exact one_pos (by omega)
  | a + 1, 0, t, h => by rw [Gz]; exact one_pos (by omega)
  | a + 1, b + 1, t, h => by
    have e : (a + 1) * (b + 1) = a * (b + 1) + (b + 1) := Nat.succ_mul _ _
    have e2 : (a + 1) * (b + 1) = (a + 1) * b + (a + 1) := Nat.mul_succ _ _
    rw [Gs]
    show Sh (b + 1) (G a (b + 1)) t + G (a + 1) b t = 0
    rw [G_deg (a + 1) b t (by omega)]
    unfold Sh
    rw [if_pos (by omega), G_deg a (b + 1) (t - (b + 1)) (by omega)]; rfl
theorem G_pal : ∀ (a b t : Nat), t ≤ a * b → G a b t = G a b (a * b - t)
  | 0, b, t, h => by rw [Nat.zero_mul] at h ⊢; rw [show t = 0 by omega]
  | a + 1, 0, t, h => by rw [Nat.mul_zero] at h ⊢; rw [show t = 0 by omega]
  | a + 1, b + 1, t, h => by
    have e : (a + 1) * (b + 1) = a * (b + 1) + (b + 1) := Nat.succ_mul _ _
    have e2 : (a + 1) * (b + 1) = (a + 1) * b + (a + 1) := Nat.mul_succ _ _
    have g1 : G (a + 1) (b + 1) t = Sh (a + 1) (G (a + 1) b) t + G a (b + 1) t := by rw [Gs']; rfl
    have g2 : G (a + 1) (b + 1) ((a + 1) * (b + 1) - t) = Sh (b + 1) (G a (b + 1)) ((a + 1) * (b + 1) - t) + G (a + 1) b ((a + 1) * (b + 1) - t) := by rw [Gs]; rfl
    rw [g1, g2]
    have h1 : G a (b + 1) t = Sh (b + 1) (G a (b + 1)) ((a + 1) * (b + 1) - t) := by
      unfold Sh
      by_cases c : t ≤ a * (b + 1)
      · rw [if_pos (by omega), G_pal a (b + 1) t c]
        congr 1; omega
      · rw [if_neg (by omega), G_deg a (b + 1) t (by omega)]
    have h2 : Sh (a + 1) (G (a + 1) b) t = G (a + 1) b ((a + 1) * (b + 1) - t) := by
      unfold Sh
      by_cases c : a + 1 ≤ t
      · rw [if_pos c, G_pal (a + 1) b (t - (a + 1)) (by omega)]
        congr 1; omega
      · rw [if_neg c, G_deg (a + 1) b _ (by omega)]
    rw [h1, h2]; omega
theorem G_zero : ∀ a b : Nat, G a b 0 = 1
  | 0, b => by rw [G0]; rfl
  | a + 1, 0 => by rw [Gz]; rfl
  | a + 1, b + 1 => by
    rw [Gs]
    show Sh (b + 1) (G a (b + 1)) 0 + G (a + 1) b 0 = 1
    rw [G_zero (a + 1) b]; rfl
theorem G_top (a b : Nat) : G a b (a * b) = 1 := by
  have := G_pal a b 0 (Nat.zero_le _)
  rw [Nat.sub_zero, G_zero] at this
  exact this.symm
/-! natural values -/
def nO (t : Nat) : Nat := if t = 0 then 1 else 0
def Nr (g : Nat → Nat → Nat) : Nat → Nat → Nat
  | 0 => nO
  | w + 1 => fun t => (if w + 1 ≤ t then g (w + 1) (t - (w + 1)) else 0) + Nr g w t
def N : Nat → Nat → Nat → Nat
  | 0 => fun _ => nO
  | a + 1 => Nr (N a)
theorem N0 (w : Nat) : N 0 w = nO := rfl
theorem Nz (a : Nat) : N a 0 = nO := by cases a <;> rfl
theorem Ns (a w t : Nat) : N (a + 1) (w + 1) t = (if w + 1 ≤ t then N a (w + 1) (t - (w + 1)) else 0) + N (a + 1) w t := rfl
theorem G_N : ∀ a b t : Nat, G a b t = (N a b t : Int)
  | 0, b, t => by rw [G0, N0]; unfold nO one; split <;> rfl
  | a + 1, 0, t => by rw [Gz, Nz]; unfold nO one; split <;> rfl
  | a + 1, b + 1, t => by
    rw [Gs, Ns]
    show Sh (b + 1) (G a (b + 1)) t + G (a + 1) b t = _
    rw [G_N (a + 1) b t]
    unfold Sh
    split
    · rw [G_N a (b + 1)]; omega
    · omega
theorem N_le : ∀ a b t : Nat, N a b t ≤ 2 ^ (a + b)
  | 0, b, t => by rw [N0]; unfold nO; have := Nat.one_le_two_pow (n := 0 + b); split <;> omega
  | a + 1, 0, t => by rw [Nz]; unfold nO; have := Nat.one_le_two_pow (n := a + 1 + 0); split <;> omega
  | a + 1, b + 1, t => by
    rw [Ns]
    have h1 := N_le a (b + 1) (t - (b + 1))
    have h2 := N_le (a + 1) b t
    have e : 2 ^ (a + 1 + (b + 1)) = 2 * 2 ^ (a + (b + 1)) := by rw [show a + 1 + (b + 1) = a + (b + 1) + 1 by omega, Nat.pow_succ]; omega
    have e2 : 2 ^ (a + 1 + b) = 2 ^ (a + (b + 1)) := by congr 1; omega
    split <;> omega
/-! packed: digits in base 2 ^ s -/
/-- the number with the digits f 0, .. f (n - 1) -/
def pk (s : Nat) (f : Nat → Nat) : Nat → Nat
  | 0 => 0
  | n + 1 => pk s f n + f n * 2 ^ (s * n)
theorem pk_lt {s : Nat} {f : Nat → Nat} (hf : ∀ t, f t < 2 ^ s) : ∀ n, pk s f n < 2 ^ (s * n)
  | 0 => by simp [pk]
  | n + 1 => by
    rw [pk, Nat.mul_succ, Nat.pow_add]
    have h1 := pk_lt hf n
    have h2 : (f n + 1) * 2 ^ (s * n) ≤ 2 ^ s * 2 ^ (s * n) := Nat.mul_le_mul_right _ (hf n)
    rw [Nat.succ_mul] at h2
    rw [Nat.mul_comm (2 ^ (s * n))]
    omega
theorem pk_cons (s : Nat) (f : Nat → Nat) : ∀ n, pk s f (n + 1) = f 0 + 2 ^ s * pk s (fun t => f (t + 1)) n
  | 0 => by simp [pk]
  | n + 1 => by
    have e : f (n + 1) * 2 ^ (s * (n + 1)) = 2 ^ s * (f (n + 1) * 2 ^ (s * n)) := by
      rw [Nat.mul_succ, Nat.pow_add, Nat.mul_comm (2 ^ (s * n)), ← Nat.mul_assoc, Nat.mul_comm (f (n + 1)), Nat.mul_assoc]
    have e2 : pk s (fun t => f (t + 1)) (n + 1) = pk s (fun t => f (t + 1)) n + f (n + 1) * 2 ^ (s * n) := rfl
    have e3 : pk s f (n + 1 + 1) = pk s f (n + 1) + f (n + 1) * 2 ^ (s * (n + 1)) := rfl
    rw [e3, pk_cons s f n, e2, e, Nat.mul_add, Nat.add_assoc]
theorem pk_digit {s : Nat} {f : Nat → Nat} (hf : ∀ t, f t < 2 ^ s) (n : Nat) : pk s f (n + 1) % 2 ^ s = f 0 ∧ pk s f (n + 1) / 2 ^ s = pk s (fun t => f (t + 1)) n := by
  rw [pk_cons]
  have hp : 0 < 2 ^ s := Nat.two_pow_pos s
  exact ⟨by rw [Nat.add_mul_mod_self_left, Nat.mod_eq_of_lt (hf 0)], by rw [Nat.add_mul_div_left _ _ hp, Nat.div_eq_of_lt (hf 0), Nat.zero_add]⟩
theorem pk_ext {s : Nat} {f g : Nat → Nat} : ∀ {n : Nat}, (∀ t, t < n → f t = g t) → pk s f n = pk s g n
  | 0, _ => rfl
  | n + 1, h => by rw [pk, pk, pk_ext fun t ht => h t (by omega), h n (by omega)]
theorem pk_add (s : Nat) (f g : Nat → Nat) : ∀ n, pk s (fun t => f t + g t) n = pk s f n + pk s g n
  | 0 => rfl
  | n + 1 => by rw [pk, pk, pk, pk_add s f g n, Nat.add_mul]; omega
theorem pk_zero (s : Nat) {f : Nat → Nat} : ∀ n, (∀ t, t < n → f t = 0) → pk s f n = 0
  | 0, _ => rfl
  | n + 1, h => by rw [pk, pk_zero s n fun t ht => h t (by omega), h n (by omega)]; simp
theorem pk_sh (s k : Nat) (f : Nat → Nat) : ∀ n, pk s (fun t => if k ≤ t then f (t - k) else 0) (k + n) = pk s f n * 2 ^ (s * k)
  | 0 => by rw [Nat.add_zero, pk_zero s k fun t ht => if_neg (by omega)]; simp [pk]
  | n + 1 => by
    rw [← Nat.add_assoc, pk, pk_sh s k f n, pk, if_pos (by omega), show k + n - k = n by omega, Nat.mul_add, Nat.pow_add, Nat.add_mul]
    congr 1
    rw [Nat.mul_comm (2 ^ (s * k)), Nat.mul_assoc]
/-- more places with nothing -/
theorem pk_more (s : Nat) (f : Nat → Nat) (n : Nat) : ∀ m, (∀ t, n ≤ t → f t = 0) → pk s f (n + m) = pk s f n
  | 0, _ => rfl
  | m + 1, h => by rw [← Nat.add_assoc, pk, pk_more s f n m h, h (n + m) (by omega)]; simp
end GP
end
section
set_option maxHeartbeats 1000000
/-! LbB: polynomials of boxes: cut, times, added, box_polynomial. -/
namespace LbB
open PySem PySem.Spec PyProof.Rows L2 FL Lb
open PS (V Sh one Ag)
open GP (ad G)
def b_cut_1 : SF := (seqS (popS 1)
  (nilS []))
def m_cut : List D → M D := runS 2 1 false (seqS (setO 1 (bA aList (aC (vw 0) aN)))
  (seqS (whS (andB (truB (vw 1)) (isB (b2 dEq (b2 dIx (vw 1) (b1 dNeg (cst (.int 1)))) (cst (.int 0)))))
  b_cut_1)
  (seqS (retS (bA aTuple (aC (vw 1) aN)))
  (nilS []))))
def b_times_1 : SF := (seqS (setIS 2 (b2 dAdd (vw 3) (vw 5)) (b2 dAdd (b2 dIx (vw 2) (b2 dAdd (vw 3) (vw 5))) (b2 dMul (vw 4) (vw 6))))
  (nilS [5, 6]))
def b_times_2 : SF := (seqS (forS (itEn (vr 1)) (gT (gsC (gN 5) (gsC (gN 6) gsN)))
  b_times_1)
  (nilS [3, 4, 5, 6]))
def m_times : List D → M D := runS 7 2 false (seqS (setO 2 (b2 dRep (eLst (aC (cst (.int 0)) aN)) (b2 dAdd (bA aLen (aC (vw 0) aN)) (bA aLen (aC (vw 1) aN)))))
  (seqS (forS (itEn (vr 0)) (gT (gsC (gN 3) (gsC (gN 4) gsN)))
  b_times_2)
  (frzS 2 (seqS (retS (callE m_cut (aC (vr 2) aN)))
  (nilS [])))))
def b_added_1 : SF := (seqS (setIS 4 (b2 dAdd (vw 5) (vw 2)) (b2 dAdd (b2 dIx (vw 4) (b2 dAdd (vw 5) (vw 2))) (vw 6)))
  (nilS [5, 6]))
def m_added : List D → M D := runS 7 3 false (seqS (setD 3 (bA aMax (aC (b2 dAdd (bA aLen (aC (vw 0) aN)) (vw 2)) (aC (bA aLen (aC (vw 1) aN)) aN))))
  (seqS (setO 4 (b2 dCat (bA aList (aC (vw 1) aN)) (b2 dMul (eLst (aC (cst (.int 0)) aN)) (b2 dSub (vw 3) (bA aLen (aC (vw 1) aN))))))
  (seqS (forS (itEn (vr 0)) (gT (gsC (gN 5) (gsC (gN 6) gsN)))
  b_added_1)
  (seqS (retS (bA aTuple (aC (vw 4) aN)))
  (nilS [])))))
def c_box_polynomial_1 : EF := (lcE (itR1 (b2 dAdd (vw 1) (cst (.int 1)))) (gN 3) yesB (eTup (aC (cst (.int 1)) aN)) [3])
def b_box_polynomial_1 : SF := (seqS (appS 4 (callE m_added (aC (b2 dIx (vw 2) (vw 5)) (aC (b2 dIx (vw 4) (b2 dSub (vw 5) (cst (.int 1)))) (aC (vr 5) aN)))))
  (nilS [5]))
def b_box_polynomial_2 : SF := (seqS (setO 4 (eLst (aC (eTup (aC (cst (.int 1)) aN)) aN)))
  (seqS (forS (itR2 (cst (.int 1)) (b2 dAdd (vw 1) (cst (.int 1)))) (gN 5)
  b_box_polynomial_1)
  (frzS 4 (seqS (setD 2 (vr 4))
  (nilS [3, 4, 5])))))
def m_box_polynomial : List D → M D := runS 6 2 false (seqS (setD 2 c_box_polynomial_1)
  (seqS (forS (itR1 (vw 0)) (gN 3)
  b_box_polynomial_2)
  (seqS (retS (b2 dIx (vw 2) (vw 1)))
  (nilS []))))
/-- how many places are left without the zeros at the end -/
def cutN (f : Nat → Int) : Nat → Nat
  | 0 => 0
  | n + 1 => if f n = 0 then cutN f n else n + 1
theorem cutN_le (f : Nat → Int) : ∀ n, cutN f n ≤ n
  | 0 => Nat.le_refl _
  | n + 1 => by unfold cutN; have := cutN_le f n; split <;> omega
theorem cutN_zero (f : Nat → Int) : ∀ n, (∀ t, t < n → f t = 0) → cutN f n = 0
  | 0, _ => rfl
  | n + 1, h => by unfold cutN; rw [if_pos (h n (by omega))]; exact cutN_zero f n fun t ht => h t (by omega)
theorem cutN_top (f : Nat → Int) (m : Nat) (hm : f m ≠ 0) : ∀ k, (∀ t, m < t → t < m + 1 + k → f t = 0) → cutN f (m + 1 + k) = m + 1
  | 0, _ => by unfold cutN; rw [if_neg hm]
  | k + 1, h => by
    rw [← Nat.add_assoc]
    unfold cutN
    rw [if_pos (h (m + 1 + k) (by omega) (by omega))]
    exact cutN_top f m hm k fun t h1 h2 => h t h1 (by omega)
theorem cutN_step (f : Nat → Int) : ∀ n i, i < n - cutN f n → f (n - (i + 1)) = 0
  | 0, i, h => by simp [cutN] at h
  | n + 1, i, h => by
    unfold cutN at h
    by_cases e : f n = 0
    · rw [if_pos e] at h
      cases i with
      | zero => exact e
      | succ i =>
        have := cutN_le f n
        have h2 := cutN_step f n i (by omega)
        rw [show n + 1 - (i + 1 + 1) = n - (i + 1) by omega]; exact h2
    · rw [if_neg e] at h; omega
theorem cutN_end (f : Nat → Int) : ∀ n, cutN f n = 0 ∨ ∃ m, cutN f n = m + 1 ∧ f m ≠ 0
  | 0 => .inl rfl
  | n + 1 => by
    unfold cutN
    by_cases e : f n = 0
    · rw [if_pos e]; exact cutN_end f n
    · rw [if_neg e]; exact .inr ⟨n, rfl, e⟩
/-- pops at the end of a table in slot, whatever the test's way -/
theorem popW {t : BF} {body : SF} (E : List D → FL.Env) {n : Nat} {f : Nat → Int} (hn : n < 199999) (ht0 : t (E []) = ret false) (ht : ∀ m, t (E (tab (m + 1) f)) = ret (decide (f m = 0))) (hb : ∀ m, body (E (tab (m + 1) f)) = ret (.nx (E (tab m f)))) :
    whS t body (E (tab n f)) = ret (.nx (E (tab (cutN f n) f))) := by
  have hle := cutN_le f n
  have := loopW (t := t) (body := body) (fun i => E (tab (n - i) f)) (n - cutN f n) (by omega)
    (fun i hi => by
      have h0 := cutN_step f n i hi
      rw [show n - i = (n - (i + 1)) + 1 by omega, ht, hb, h0]
      exact ⟨rfl, rfl⟩)
    (by
      rw [show n - (n - cutN f n) = cutN f n by omega]
      rcases cutN_end f n with h | ⟨m, h, hm⟩
      · rw [h]; exact ht0
      · rw [h, ht]; simp [hm])
  rw [show n - (n - cutN f n) = cutN f n by omega] at this
  exact this
theorem cut_eq {n : Nat} {f : Nat → Int} (hn : n < 199999) : m_cut [.lst (tab n f)] = ret (T (lsF (cutN f n) f)) := by
  unfold m_cut
  have := popW (t := andB (truB (vw 1)) (isB (b2 dEq (b2 dIx (vw 1) (b1 dNeg (cst (.int 1)))) (cst (.int 0))))) (body := b_cut_1) (fun l => [.d (.lst (tab n f)), .o (.lst l)]) (n := n) (f := f) hn
    (by simp only [run_r, seq_r, cont_nx, cont_rt, cont_bk, cont_ct, if_r, sel_t, sel_f, ife_r, sele_t, sele_f, and_r, or_r, sela_t, sela_f, selo_t, selo_f, out_rt, out_rtl, out_rtO, out_nx, setD, setO, retS, retO, retV, retN, nilS, fgt, isB, truB, truD, notB, orV, andV, notV, b1, b2, bA, aC, aN, vr, vw, cst, nth, sset, bnd_r, opt_s, cond_true, cond_false, eTup_0, eTup_1, eTup_2, eTup_3, eLst_0, eLst_1, eLst_2, eLst_3, callE, mkE, List.replicate_succ, List.replicate_zero, List.length_cons, List.length_nil, List.length_map, if_true, if_false, Nat.reduceAdd, Nat.reduceSub, Bool.false_and, Bool.and_true, Bool.true_and, Bool.and_false, Bool.not_true, Bool.not_false, Bool.true_or, Bool.or_true, Bool.false_or, Bool.or_false, reduceIte, Bool.false_eq_true, dGt, dLt, dGe, dLe, dCmp, dSub, dNeg, aLen, seqD_tup, seqD_lst, seqD_T, Option.map_some, dIsN, dNotN, isNonD_non, isNonD_bl, isNonD_int, isNonD_str, isNonD_tup, isNonD_lst, isNonD_T, forL_nil, forL_cons, loop_nx, loop_ct, loop_bk, loop_rt, frzS, frzE, appS, parS]; rfl)
    (fun m => by
      have h1 : truD (.lst (tab (m + 1) f)) = some true := by show some (!(tab (m + 1) f).isEmpty) = _; rw [tab_nilB]; rfl
      have h1' : (!(tab (m + 1) f).isEmpty) = true := by rw [tab_nilB]; rfl
      simp only [run_r, seq_r, cont_nx, cont_rt, cont_bk, cont_ct, if_r, sel_t, sel_f, ife_r, sele_t, sele_f, and_r, or_r, sela_t, sela_f, selo_t, selo_f, out_rt, out_rtl, out_rtO, out_nx, setD, setO, retS, retO, retV, retN, nilS, fgt, isB, truB, truD, notB, orV, andV, notV, b1, b2, bA, aC, aN, vr, vw, cst, nth, sset, bnd_r, opt_s, cond_true, cond_false, eTup_0, eTup_1, eTup_2, eTup_3, eLst_0, eLst_1, eLst_2, eLst_3, callE, mkE, List.replicate_succ, List.replicate_zero, List.length_cons, List.length_nil, List.length_map, if_true, if_false, Nat.reduceAdd, Nat.reduceSub, Bool.false_and, Bool.and_true, Bool.true_and, Bool.and_false, Bool.not_true, Bool.not_false, Bool.true_or, Bool.or_true, Bool.false_or, Bool.or_false, reduceIte, Bool.false_eq_true, dGt, dLt, dGe, dLe, dCmp, dSub, dNeg, aLen, seqD_tup, seqD_lst, seqD_T, Option.map_some, dIsN, dNotN, isNonD_non, isNonD_bl, isNonD_int, isNonD_str, isNonD_tup, isNonD_lst, isNonD_T, forL_nil, forL_cons, loop_nx, loop_ct, loop_bk, loop_rt, frzS, frzE, appS, parS, truB, h1', tab_lastIx, dEq_int])
    (fun m => by unfold b_cut_1; simp only [popS, run_r, seq_r, cont_nx, cont_rt, cont_bk, cont_ct, if_r, sel_t, sel_f, ife_r, sele_t, sele_f, and_r, or_r, sela_t, sela_f, selo_t, selo_f, out_rt, out_rtl, out_rtO, out_nx, setD, setO, retS, retO, retV, retN, nilS, fgt, isB, truB, truD, notB, orV, andV, notV, b1, b2, bA, aC, aN, vr, vw, cst, nth, sset, bnd_r, opt_s, cond_true, cond_false, eTup_0, eTup_1, eTup_2, eTup_3, eLst_0, eLst_1, eLst_2, eLst_3, callE, mkE, List.replicate_succ, List.replicate_zero, List.length_cons, List.length_nil, List.length_map, if_true, if_false, Nat.reduceAdd, Nat.reduceSub, Bool.false_and, Bool.and_true, Bool.true_and, Bool.and_false, Bool.not_true, Bool.not_false, Bool.true_or, Bool.or_true, Bool.false_or, Bool.or_false, reduceIte, Bool.false_eq_true, dGt, dLt, dGe, dLe, dCmp, dSub, dNeg, aLen, seqD_tup, seqD_lst, seqD_T, Option.map_some, dIsN, dNotN, isNonD_non, isNonD_bl, isNonD_int, isNonD_str, isNonD_tup, isNonD_lst, isNonD_T, forL_nil, forL_cons, loop_nx, loop_ct, loop_bk, loop_rt, frzS, frzE, appS, parS, pop_tab])
  have h2 : ∀ x : D, FL.vw 1 [SV.d (.lst (tab n f)), SV.o x] = ret x := fun _ => rfl
  simp only [aList, run_r, seq_r, cont_nx, cont_rt, cont_bk, cont_ct, if_r, sel_t, sel_f, ife_r, sele_t, sele_f, and_r, or_r, sela_t, sela_f, selo_t, selo_f, out_rt, out_rtl, out_rtO, out_nx, setD, setO, retS, retO, retV, retN, nilS, fgt, isB, truB, truD, notB, orV, andV, notV, b1, b2, bA, aC, aN, vr, vw, cst, nth, sset, bnd_r, opt_s, cond_true, cond_false, eTup_0, eTup_1, eTup_2, eTup_3, eLst_0, eLst_1, eLst_2, eLst_3, callE, mkE, List.replicate_succ, List.replicate_zero, List.length_cons, List.length_nil, List.length_map, if_true, if_false, Nat.reduceAdd, Nat.reduceSub, Bool.false_and, Bool.and_true, Bool.true_and, Bool.and_false, Bool.not_true, Bool.not_false, Bool.true_or, Bool.or_true, Bool.false_or, Bool.or_false, reduceIte, Bool.false_eq_true, dGt, dLt, dGe, dLe, dCmp, dSub, dNeg, aLen, seqD_tup, seqD_lst, seqD_T, Option.map_some, dIsN, dNotN, isNonD_non, isNonD_bl, isNonD_int, isNonD_str, isNonD_tup, isNonD_lst, isNonD_T, forL_nil, forL_cons, loop_nx, loop_ct, loop_bk, loop_rt, frzS, frzE, appS, parS]
  rw [this]
  simp only [run_r, seq_r, cont_nx, cont_rt, cont_bk, cont_ct, if_r, sel_t, sel_f, ife_r, sele_t, sele_f, and_r, or_r, sela_t, sela_f, selo_t, selo_f, out_rt, out_rtl, out_rtO, out_nx, setD, setO, retS, retO, retV, retN, nilS, fgt, isB, truB, truD, notB, orV, andV, notV, b1, b2, bA, aC, aN, vr, vw, cst, nth, sset, bnd_r, opt_s, cond_true, cond_false, eTup_0, eTup_1, eTup_2, eTup_3, eLst_0, eLst_1, eLst_2, eLst_3, callE, mkE, List.replicate_succ, List.replicate_zero, List.length_cons, List.length_nil, List.length_map, if_true, if_false, Nat.reduceAdd, Nat.reduceSub, Bool.false_and, Bool.and_true, Bool.true_and, Bool.and_false, Bool.not_true, Bool.not_false, Bool.true_or, Bool.or_true, Bool.false_or, Bool.or_false, reduceIte, Bool.false_eq_true, dGt, dLt, dGe, dLe, dCmp, dSub, dNeg, aLen, seqD_tup, seqD_lst, seqD_T, Option.map_some, dIsN, dNotN, isNonD_non, isNonD_bl, isNonD_int, isNonD_str, isNonD_tup, isNonD_lst, isNonD_T, forL_nil, forL_cons, loop_nx, loop_ct, loop_bk, loop_rt, frzS, frzE, appS, parS, aTuple, T_tab]
/-- one row of the products -/
def rowF (p q : List Int) (i : Nat) (h : Nat → Int) : Nat → Nat → Int
  | 0 => h
  | j + 1 => upF (rowF p q i h j) (i + j) (rowF p q i h j (i + j) + at' p i * at' q j)
def cvF (p q : List Int) : Nat → Nat → Int
  | 0 => fun _ => 0
  | i + 1 => rowF p q i (cvF p q i) q.length
theorem rep_tab {k : Nat} (hk : k ≤ 1000000) : dRep (.lst [.int 0]) (.int k) = some (.lst (tab k (fun _ => 0))) := by rw [repR0 hk, tab_rep]
theorem times_eq {p q : List Int} (lp : p.length ≤ 100000) (lq : q.length ≤ 100000 - p.length) (hmul : ∀ i j, i < p.length → j < q.length → dMul (.int (at' p i)) (.int (at' q j)) = some (.int (at' p i * at' q j))) : m_times [T p, T q] = ret (T (lsF (cutN (cvF p q p.length) (p.length + q.length)) (cvF p q p.length))) := by
  unfold m_times
  have inner : ∀ (i : Nat) (h : Nat → Int), i < p.length → b_times_2 [.d (T p), .d (T q), .o (.lst (tab (p.length + q.length) h)), .d (.int (i : Int)), .d (.int (at' p i)), .un, .un] = ret (.nx [.d (T p), .d (T q), .o (.lst (tab (p.length + q.length) (rowF p q i h q.length))), .un, .un, .un, .un]) := fun i h hi => by
    unfold b_times_2
    have e := loopR (m := q.length) (it := itEn (vr 1)) (b := gT (gsC (gN 5) (gsC (gN 6) gsN))) (body := b_times_1) (fun k : Nat => D.tup [.int (k : Int), .int (at' q k)])
      (fun j : Nat => [.d (T p), .d (T q), .o (.lst (tab (p.length + q.length) (rowF p q i h j))), .d (.int (i : Int)), .d (.int (at' p i)), .un, .un])
      (by simp only [itEn, run_r, seq_r, cont_nx, cont_rt, cont_bk, cont_ct, if_r, sel_t, sel_f, ife_r, sele_t, sele_f, and_r, or_r, sela_t, sela_f, selo_t, selo_f, out_rt, out_rtl, out_rtO, out_nx, setD, setO, retS, retO, retV, retN, nilS, fgt, isB, truB, truD, notB, orV, andV, notV, b1, b2, bA, aC, aN, vr, vw, cst, nth, sset, bnd_r, opt_s, cond_true, cond_false, eTup_0, eTup_1, eTup_2, eTup_3, eLst_0, eLst_1, eLst_2, eLst_3, callE, mkE, List.replicate_succ, List.replicate_zero, List.length_cons, List.length_nil, List.length_map, if_true, if_false, Nat.reduceAdd, Nat.reduceSub, Bool.false_and, Bool.and_true, Bool.true_and, Bool.and_false, Bool.not_true, Bool.not_false, Bool.true_or, Bool.or_true, Bool.false_or, Bool.or_false, reduceIte, Bool.false_eq_true, dGt, dLt, dGe, dLe, dCmp, dSub, dNeg, aLen, seqD_tup, seqD_lst, seqD_T, Option.map_some, dIsN, dNotN, isNonD_non, isNonD_bl, isNonD_int, isNonD_str, isNonD_tup, isNonD_lst, isNonD_T, forL_nil, forL_cons, loop_nx, loop_ct, loop_bk, loop_rt, frzS, frzE, appS, parS, enum_T]) (fun j hj => by
        refine ⟨_, rfl, ?_⟩
        unfold b_times_1
        have hx := tab_ix (n := p.length + q.length) (f := rowF p q i h j) (v := (i : Int) + (j : Int)) (by omega) (by omega)
        rw [show ((i : Int) + (j : Int)).toNat = i + j by omega] at hx
        have hs := tab_setIO (n := p.length + q.length) (f := rowF p q i h j) (t := i + j) (v := rowF p q i h j (i + j) + at' p i * at' q j) (by omega)
        rw [show ((i + j : Nat) : Int) = (i : Int) + (j : Int) by omega] at hs
        simp only [setIS, run_r, seq_r, cont_nx, cont_rt, cont_bk, cont_ct, if_r, sel_t, sel_f, ife_r, sele_t, sele_f, and_r, or_r, sela_t, sela_f, selo_t, selo_f, out_rt, out_rtl, out_rtO, out_nx, setD, setO, retS, retO, retV, retN, nilS, fgt, isB, truB, truD, notB, orV, andV, notV, b1, b2, bA, aC, aN, vr, vw, cst, nth, sset, bnd_r, opt_s, cond_true, cond_false, eTup_0, eTup_1, eTup_2, eTup_3, eLst_0, eLst_1, eLst_2, eLst_3, callE, mkE, List.replicate_succ, List.replicate_zero, List.length_cons, List.length_nil, List.length_map, if_true, if_false, Nat.reduceAdd, Nat.reduceSub, Bool.false_and, Bool.and_true, Bool.true_and, Bool.and_false, Bool.not_true, Bool.not_false, Bool.true_or, Bool.or_true, Bool.false_or, Bool.or_false, reduceIte, Bool.false_eq_true, dGt, dLt, dGe, dLe, dCmp, dSub, dNeg, aLen, seqD_tup, seqD_lst, seqD_T, Option.map_some, dIsN, dNotN, isNonD_non, isNonD_bl, isNonD_int, isNonD_str, isNonD_tup, isNonD_lst, isNonD_T, forL_nil, forL_cons, loop_nx, loop_ct, loop_bk, loop_rt, frzS, frzE, appS, parS, dAdd_ii, hx, hmul i j hi hj, hs]
        rfl)
    have e0 : rowF p q i h 0 = h := rfl
    rw [e0] at e
    simp only [run_r, seq_r, cont_nx, cont_rt, cont_bk, cont_ct, if_r, sel_t, sel_f, ife_r, sele_t, sele_f, and_r, or_r, sela_t, sela_f, selo_t, selo_f, out_rt, out_rtl, out_rtO, out_nx, setD, setO, retS, retO, retV, retN, nilS, fgt, isB, truB, truD, notB, orV, andV, notV, b1, b2, bA, aC, aN, vr, vw, cst, nth, sset, bnd_r, opt_s, cond_true, cond_false, eTup_0, eTup_1, eTup_2, eTup_3, eLst_0, eLst_1, eLst_2, eLst_3, callE, mkE, List.replicate_succ, List.replicate_zero, List.length_cons, List.length_nil, List.length_map, if_true, if_false, Nat.reduceAdd, Nat.reduceSub, Bool.false_and, Bool.and_true, Bool.true_and, Bool.and_false, Bool.not_true, Bool.not_false, Bool.true_or, Bool.or_true, Bool.false_or, Bool.or_false, reduceIte, Bool.false_eq_true, dGt, dLt, dGe, dLe, dCmp, dSub, dNeg, aLen, seqD_tup, seqD_lst, seqD_T, Option.map_some, dIsN, dNotN, isNonD_non, isNonD_bl, isNonD_int, isNonD_str, isNonD_tup, isNonD_lst, isNonD_T, forL_nil, forL_cons, loop_nx, loop_ct, loop_bk, loop_rt, frzS, frzE, appS, parS, e]
  have outer := loopR (m := p.length) (it := itEn (vr 0)) (b := gT (gsC (gN 3) (gsC (gN 4) gsN))) (body := b_times_2) (fun k : Nat => D.tup [.int (k : Int), .int (at' p k)])
    (fun i : Nat => [.d (T p), .d (T q), .o (.lst (tab (p.length + q.length) (cvF p q i))), .un, .un, .un, .un])
    (by simp only [itEn, run_r, seq_r, cont_nx, cont_rt, cont_bk, cont_ct, if_r, sel_t, sel_f, ife_r, sele_t, sele_f, and_r, or_r, sela_t, sela_f, selo_t, selo_f, out_rt, out_rtl, out_rtO, out_nx, setD, setO, retS, retO, retV, retN, nilS, fgt, isB, truB, truD, notB, orV, andV, notV, b1, b2, bA, aC, aN, vr, vw, cst, nth, sset, bnd_r, opt_s, cond_true, cond_false, eTup_0, eTup_1, eTup_2, eTup_3, eLst_0, eLst_1, eLst_2, eLst_3, callE, mkE, List.replicate_succ, List.replicate_zero, List.length_cons, List.length_nil, List.length_map, if_true, if_false, Nat.reduceAdd, Nat.reduceSub, Bool.false_and, Bool.and_true, Bool.true_and, Bool.and_false, Bool.not_true, Bool.not_false, Bool.true_or, Bool.or_true, Bool.false_or, Bool.or_false, reduceIte, Bool.false_eq_true, dGt, dLt, dGe, dLe, dCmp, dSub, dNeg, aLen, seqD_tup, seqD_lst, seqD_T, Option.map_some, dIsN, dNotN, isNonD_non, isNonD_bl, isNonD_int, isNonD_str, isNonD_tup, isNonD_lst, isNonD_T, forL_nil, forL_cons, loop_nx, loop_ct, loop_bk, loop_rt, frzS, frzE, appS, parS, enum_T]) (fun i hi => ⟨_, rfl, inner i (cvF p q i) hi⟩)
  have e0 : cvF p q 0 = fun _ => 0 := rfl
  rw [e0] at outer
  have hr := rep_tab (k := p.length + q.length) (by omega)
  rw [show ((p.length + q.length : Nat) : Int) = (p.length : Int) + (q.length : Int) by omega] at hr
  simp only [run_r, seq_r, cont_nx, cont_rt, cont_bk, cont_ct, if_r, sel_t, sel_f, ife_r, sele_t, sele_f, and_r, or_r, sela_t, sela_f, selo_t, selo_f, out_rt, out_rtl, out_rtO, out_nx, setD, setO, retS, retO, retV, retN, nilS, fgt, isB, truB, truD, notB, orV, andV, notV, b1, b2, bA, aC, aN, vr, vw, cst, nth, sset, bnd_r, opt_s, cond_true, cond_false, eTup_0, eTup_1, eTup_2, eTup_3, eLst_0, eLst_1, eLst_2, eLst_3, callE, mkE, List.replicate_succ, List.replicate_zero, List.length_cons, List.length_nil, List.length_map, if_true, if_false, Nat.reduceAdd, Nat.reduceSub, Bool.false_and, Bool.and_true, Bool.true_and, Bool.and_false, Bool.not_true, Bool.not_false, Bool.true_or, Bool.or_true, Bool.false_or, Bool.or_false, reduceIte, Bool.false_eq_true, dGt, dLt, dGe, dLe, dCmp, dSub, dNeg, aLen, seqD_tup, seqD_lst, seqD_T, Option.map_some, dIsN, dNotN, isNonD_non, isNonD_bl, isNonD_int, isNonD_str, isNonD_tup, isNonD_lst, isNonD_T, forL_nil, forL_cons, loop_nx, loop_ct, loop_bk, loop_rt, frzS, frzE, appS, parS, dAdd_ii, hr, outer, cut_eq (n := p.length + q.length) (by omega)]
/-- a table with zeros behind it -/
theorem tab_zeros {n m : Nat} {f : Nat → Int} (h : ∀ t, n ≤ t → f t = 0) : tab n f ++ List.replicate m (D.int 0) = tab (n + m) f := by
  rw [tab_rep, ← tab_app n m f]
  congr 1
  exact tab_congr fun t _ => (h (n + t) (by omega)).symm
theorem added_eq {n m k : Nat} {f g : Nat → Int} (hn : n ≤ 100000) (hm : m ≤ 100000) (hk : k ≤ 1000) (hf : ∀ t, n ≤ t → f t = 0) (hg : ∀ t, m ≤ t → g t = 0) : m_added [T (lsF n f), T (lsF m g), .int (k : Int)] = ret (T (lsF (max (n + k) m) (ad (Sh k f) g))) := by
  unfold m_added
  have hmax : (if (m : Int) > (n : Int) + (k : Int) then (m : Int) else (n : Int) + (k : Int)) = ((max (n + k) m : Nat) : Int) := by split <;> omega
  have hdif : ((max (n + k) m : Nat) : Int) - (m : Int) = ((max (n + k) m - m : Nat) : Int) := by omega
  have hcat : dCat (.lst (tab m g)) (.lst (List.replicate (max (n + k) m - m) (D.int 0))) = some (.lst (tab (max (n + k) m) g)) := by
    rw [dCat_ll (by rw [tab_len, List.length_replicate]; omega), tab_zeros hg, show m + (max (n + k) m - m) = max (n + k) m by omega]
  have loop := loopR (m := n) (it := itEn (vr 0)) (b := gT (gsC (gN 5) (gsC (gN 6) gsN))) (body := b_added_1) (fun t : Nat => D.tup [.int (t : Int), .int (f t)])
    (fun i : Nat => [.d (T (lsF n f)), .d (T (lsF m g)), .d (.int (k : Int)), .d (.int ((max (n + k) m : Nat) : Int)), .o (.lst (tab (max (n + k) m) (fun t => if k ≤ t ∧ t < k + i then f (t - k) + g t else g t))), .un, .un])
    (by simp only [itEn, run_r, seq_r, cont_nx, cont_rt, cont_bk, cont_ct, if_r, sel_t, sel_f, ife_r, sele_t, sele_f, and_r, or_r, sela_t, sela_f, selo_t, selo_f, out_rt, out_rtl, out_rtO, out_nx, setD, setO, retS, retO, retV, retN, nilS, fgt, isB, truB, truD, notB, orV, andV, notV, b1, b2, bA, aC, aN, vr, vw, cst, nth, sset, bnd_r, opt_s, cond_true, cond_false, eTup_0, eTup_1, eTup_2, eTup_3, eLst_0, eLst_1, eLst_2, eLst_3, callE, mkE, List.replicate_succ, List.replicate_zero, List.length_cons, List.length_nil, List.length_map, if_true, if_false, Nat.reduceAdd, Nat.reduceSub, Bool.false_and, Bool.and_true, Bool.true_and, Bool.and_false, Bool.not_true, Bool.not_false, Bool.true_or, Bool.or_true, Bool.false_or, Bool.or_false, reduceIte, Bool.false_eq_true, dGt, dLt, dGe, dLe, dCmp, dSub, dNeg, aLen, seqD_tup, seqD_lst, seqD_T, Option.map_some, dIsN, dNotN, isNonD_non, isNonD_bl, isNonD_int, isNonD_str, isNonD_tup, isNonD_lst, isNonD_T, forL_nil, forL_cons, loop_nx, loop_ct, loop_bk, loop_rt, frzS, frzE, appS, parS, lsF_tab, enum_tab]) (fun i hi => by
      refine ⟨_, rfl, ?_⟩
      unfold b_added_1
      have hx := tab_ix (n := max (n + k) m) (f := fun t => if k ≤ t ∧ t < k + i then f (t - k) + g t else g t) (v := (i : Int) + (k : Int)) (by omega) (by omega)
      rw [show ((i : Int) + (k : Int)).toNat = i + k by omega] at hx
      simp only [if_neg (show ¬ (k ≤ i + k ∧ i + k < k + i) by omega)] at hx
      have hs := tab_setIO (n := max (n + k) m) (f := fun t => if k ≤ t ∧ t < k + i then f (t - k) + g t else g t) (t := i + k) (v := g (i + k) + f i) (by omega)
      rw [show ((i + k : Nat) : Int) = (i : Int) + (k : Int) by omega] at hs
      have hc : tab (max (n + k) m) (fun x => if x = i + k then g (i + k) + f i else if k ≤ x ∧ x < k + i then f (x - k) + g x else g x) = tab (max (n + k) m) (fun t => if k ≤ t ∧ t < k + (i + 1) then f (t - k) + g t else g t) := tab_congr fun t _ => by
        by_cases e : t = i + k
        · subst e
          rw [if_pos rfl, if_pos (by omega), show i + k - k = i by omega]; omega
        · rw [if_neg e]
          by_cases c : k ≤ t ∧ t < k + i
          · rw [if_pos c, if_pos (by omega)]
          · rw [if_neg c, if_neg (by omega)]
      simp only [setIS, run_r, seq_r, cont_nx, cont_rt, cont_bk, cont_ct, if_r, sel_t, sel_f, ife_r, sele_t, sele_f, and_r, or_r, sela_t, sela_f, selo_t, selo_f, out_rt, out_rtl, out_rtO, out_nx, setD, setO, retS, retO, retV, retN, nilS, fgt, isB, truB, truD, notB, orV, andV, notV, b1, b2, bA, aC, aN, vr, vw, cst, nth, sset, bnd_r, opt_s, cond_true, cond_false, eTup_0, eTup_1, eTup_2, eTup_3, eLst_0, eLst_1, eLst_2, eLst_3, callE, mkE, List.replicate_succ, List.replicate_zero, List.length_cons, List.length_nil, List.length_map, if_true, if_false, Nat.reduceAdd, Nat.reduceSub, Bool.false_and, Bool.and_true, Bool.true_and, Bool.and_false, Bool.not_true, Bool.not_false, Bool.true_or, Bool.or_true, Bool.false_or, Bool.or_false, reduceIte, Bool.false_eq_true, dGt, dLt, dGe, dLe, dCmp, dSub, dNeg, aLen, seqD_tup, seqD_lst, seqD_T, Option.map_some, dIsN, dNotN, isNonD_non, isNonD_bl, isNonD_int, isNonD_str, isNonD_tup, isNonD_lst, isNonD_T, forL_nil, forL_cons, loop_nx, loop_ct, loop_bk, loop_rt, frzS, frzE, appS, parS, dAdd_ii, hx, hs, hc])
  have h0 : tab (max (n + k) m) (fun t => if k ≤ t ∧ t < k + 0 then f (t - k) + g t else g t) = tab (max (n + k) m) g := tab_congr fun t _ => by rw [if_neg (by omega)]
  have h1 : tab (max (n + k) m) (fun t => if k ≤ t ∧ t < k + n then f (t - k) + g t else g t) = tab (max (n + k) m) (ad (Sh k f) g) := tab_congr fun t _ => by
    unfold GP.ad Sh
    by_cases c : k ≤ t
    · rw [if_pos c]
      by_cases c2 : t < k + n
      · rw [if_pos ⟨c, c2⟩]
      · rw [if_neg (by omega), hf (t - k) (by omega)]; omega
    · rw [if_neg c, if_neg (by omega)]; omega
  rw [h0, h1] at loop
  simp only [run_r, seq_r, cont_nx, cont_rt, cont_bk, cont_ct, if_r, sel_t, sel_f, ife_r, sele_t, sele_f, and_r, or_r, sela_t, sela_f, selo_t, selo_f, out_rt, out_rtl, out_rtO, out_nx, setD, setO, retS, retO, retV, retN, nilS, fgt, isB, truB, truD, notB, orV, andV, notV, b1, b2, bA, aC, aN, vr, vw, cst, nth, sset, bnd_r, opt_s, cond_true, cond_false, eTup_0, eTup_1, eTup_2, eTup_3, eLst_0, eLst_1, eLst_2, eLst_3, callE, mkE, List.replicate_succ, List.replicate_zero, List.length_cons, List.length_nil, List.length_map, if_true, if_false, Nat.reduceAdd, Nat.reduceSub, Bool.false_and, Bool.and_true, Bool.true_and, Bool.and_false, Bool.not_true, Bool.not_false, Bool.true_or, Bool.or_true, Bool.false_or, Bool.or_false, reduceIte, Bool.false_eq_true, dGt, dLt, dGe, dLe, dCmp, dSub, dNeg, aLen, seqD_tup, seqD_lst, seqD_T, Option.map_some, dIsN, dNotN, isNonD_non, isNonD_bl, isNonD_int, isNonD_str, isNonD_tup, isNonD_lst, isNonD_T, forL_nil, forL_cons, loop_nx, loop_ct, loop_bk, loop_rt, frzS, frzE, appS, parS, lsF_len, tab_len, dAdd_ii, aMax_ii, hmax, aList_T, lsF_tab, hdif, rep0' (n := max (n + k) m - m) (by omega), hcat, loop, aTuple, tabT]
def bx (a w : Nat) : D := T (lsF (a * w + 1) (G a w))
theorem bx_add (a w : Nat) (ha : a ≤ 100) (hw : w ≤ 100) : m_added [bx a (w + 1), bx (a + 1) w, .int ((w : Int) + 1)] = ret (bx (a + 1) (w + 1)) := by
  have h1 : a * (w + 1) ≤ 100 * 101 := Nat.mul_le_mul ha (by omega)
  have h2 : (a + 1) * w ≤ 101 * 100 := Nat.mul_le_mul (by omega) hw
  have e : (a + 1) * (w + 1) = a * (w + 1) + (w + 1) := Nat.succ_mul _ _
  have e2 : (a + 1) * (w + 1) = (a + 1) * w + (a + 1) := Nat.mul_succ _ _
  have := added_eq (n := a * (w + 1) + 1) (m := (a + 1) * w + 1) (k := w + 1) (f := G a (w + 1)) (g := G (a + 1) w) (by omega) (by omega) (by omega) (fun t ht => GP.G_deg _ _ _ (by omega)) (fun t ht => GP.G_deg _ _ _ (by omega))
  rw [show ((w + 1 : Nat) : Int) = (w : Int) + 1 by omega, show max (a * (w + 1) + 1 + (w + 1)) ((a + 1) * w + 1) = (a + 1) * (w + 1) + 1 by omega] at this
  rw [bx, bx, bx, this, GP.Gs]
theorem bx_z (a : Nat) : bx a 0 = .tup [.int 1] := by
  unfold bx
  rw [GP.Gz]; rfl
def rowB (a n : Nat) : List D := (List.range n).map (bx a)
theorem rowB_get {a n w : Nat} (h : w < n) : (rowB a n)[w]? = some (bx a w) := by simp [rowB, h]
theorem rowB_snoc (a n : Nat) : rowB a n ++ [bx a n] = rowB a (n + 1) := by
  unfold rowB
  rw [List.range_succ, List.map_append]; rfl
theorem box_eq {a b : Nat} (ha : a ≤ 100) (hb : b ≤ 100) : m_box_polynomial [.int (a : Int), .int (b : Int)] = ret (bx a b) := by
  unfold m_box_polynomial
  have e0 : c_box_polynomial_1 [.d (.int (a : Int)), .d (.int (b : Int)), .un, .un, .un, .un] = ret (.lst (rowB 0 (b + 1))) := by
    unfold c_box_polynomial_1 rowB
    refine lcE_map (fun w : Nat => D.int (w : Int)) (bx 0) (List.range (b + 1)) ?_ (by rw [List.length_range, sizeLine_eq]; omega) fun w _ => ⟨_, rfl, ?_⟩
    · simp only [itR1, run_r, seq_r, cont_nx, cont_rt, cont_bk, cont_ct, if_r, sel_t, sel_f, ife_r, sele_t, sele_f, and_r, or_r, sela_t, sela_f, selo_t, selo_f, out_rt, out_rtl, out_rtO, out_nx, setD, setO, retS, retO, retV, retN, nilS, fgt, isB, truB, truD, notB, orV, andV, notV, b1, b2, bA, aC, aN, vr, vw, cst, nth, sset, bnd_r, opt_s, cond_true, cond_false, eTup_0, eTup_1, eTup_2, eTup_3, eLst_0, eLst_1, eLst_2, eLst_3, callE, mkE, List.replicate_succ, List.replicate_zero, List.length_cons, List.length_nil, List.length_map, if_true, if_false, Nat.reduceAdd, Nat.reduceSub, Bool.false_and, Bool.and_true, Bool.true_and, Bool.and_false, Bool.not_true, Bool.not_false, Bool.true_or, Bool.or_true, Bool.false_or, Bool.or_false, reduceIte, Bool.false_eq_true, dGt, dLt, dGe, dLe, dCmp, dSub, dNeg, aLen, seqD_tup, seqD_lst, seqD_T, Option.map_some, dIsN, dNotN, isNonD_non, isNonD_bl, isNonD_int, isNonD_str, isNonD_tup, isNonD_lst, isNonD_T, forL_nil, forL_cons, loop_nx, loop_ct, loop_bk, loop_rt, frzS, frzE, appS, parS, dAdd_ii]
      rw [show (b : Int) + 1 = ((b + 1 : Nat) : Int) by omega, rg1_nat (by omega), opt_s]
    · have : bx 0 w = .tup [.int 1] := by unfold bx; rw [GP.G0, Nat.zero_mul]; rfl
      simp only [run_r, seq_r, cont_nx, cont_rt, cont_bk, cont_ct, if_r, sel_t, sel_f, ife_r, sele_t, sele_f, and_r, or_r, sela_t, sela_f, selo_t, selo_f, out_rt, out_rtl, out_rtO, out_nx, setD, setO, retS, retO, retV, retN, nilS, fgt, isB, truB, truD, notB, orV, andV, notV, b1, b2, bA, aC, aN, vr, vw, cst, nth, sset, bnd_r, opt_s, cond_true, cond_false, eTup_0, eTup_1, eTup_2, eTup_3, eLst_0, eLst_1, eLst_2, eLst_3, callE, mkE, List.replicate_succ, List.replicate_zero, List.length_cons, List.length_nil, List.length_map, if_true, if_false, Nat.reduceAdd, Nat.reduceSub, Bool.false_and, Bool.and_true, Bool.true_and, Bool.and_false, Bool.not_true, Bool.not_false, Bool.true_or, Bool.or_true, Bool.false_or, Bool.or_false, reduceIte, Bool.false_eq_true, dGt, dLt, dGe, dLe, dCmp, dSub, dNeg, aLen, seqD_tup, seqD_lst, seqD_T, Option.map_some, dIsN, dNotN, isNonD_non, isNonD_bl, isNonD_int, isNonD_str, isNonD_tup, isNonD_lst, isNonD_T, forL_nil, forL_cons, loop_nx, loop_ct, loop_bk, loop_rt, frzS, frzE, appS, parS, this]
  have inner : ∀ i, i ≤ 99 → b_box_polynomial_2 [.d (.int (a : Int)), .d (.int (b : Int)), .d (.lst (rowB i (b + 1))), .d (.int (0 + (i : Int))), .un, .un] = ret (.nx [.d (.int (a : Int)), .d (.int (b : Int)), .d (.lst (rowB (i + 1) (b + 1))), .un, .un, .un]) := fun i hi => by
    unfold b_box_polynomial_2
    have loop := loopN (a := 1) (m := b) (it := itR2 (cst (.int 1)) (b2 dAdd (vw 1) (cst (.int 1)))) (b := gN 5) (body := b_box_polynomial_1) (fun w => [.d (.int (a : Int)), .d (.int (b : Int)), .d (.lst (rowB i (b + 1))), .d (.int (0 + (i : Int))), .o (.lst (rowB (i + 1) (w + 1))), .un])
      (by
        simp only [itR2, run_r, seq_r, cont_nx, cont_rt, cont_bk, cont_ct, if_r, sel_t, sel_f, ife_r, sele_t, sele_f, and_r, or_r, sela_t, sela_f, selo_t, selo_f, out_rt, out_rtl, out_rtO, out_nx, setD, setO, retS, retO, retV, retN, nilS, fgt, isB, truB, truD, notB, orV, andV, notV, b1, b2, bA, aC, aN, vr, vw, cst, nth, sset, bnd_r, opt_s, cond_true, cond_false, eTup_0, eTup_1, eTup_2, eTup_3, eLst_0, eLst_1, eLst_2, eLst_3, callE, mkE, List.replicate_succ, List.replicate_zero, List.length_cons, List.length_nil, List.length_map, if_true, if_false, Nat.reduceAdd, Nat.reduceSub, Bool.false_and, Bool.and_true, Bool.true_and, Bool.and_false, Bool.not_true, Bool.not_false, Bool.true_or, Bool.or_true, Bool.false_or, Bool.or_false, reduceIte, Bool.false_eq_true, dGt, dLt, dGe, dLe, dCmp, dSub, dNeg, aLen, seqD_tup, seqD_lst, seqD_T, Option.map_some, dIsN, dNotN, isNonD_non, isNonD_bl, isNonD_int, isNonD_str, isNonD_tup, isNonD_lst, isNonD_T, forL_nil, forL_cons, loop_nx, loop_ct, loop_bk, loop_rt, frzS, frzE, appS, parS, dAdd_ii]
        rw [rg2_rng (by omega) (by omega) (by omega) (by omega), show ((b : Int) + 1 - 1).toNat = b by omega, opt_s])
      (fun w hw => by
        refine ⟨_, rfl, ?_⟩
        unfold b_box_polynomial_1
        have x1 := ixD (rowB_get (a := i) (n := b + 1) (w := w + 1) (by omega))
        have x2 := ixD (rowB_get (a := i + 1) (n := w + 1) (w := w) (by omega))
        have ha' := bx_add i w (by omega) (by omega)
        rw [show ((w + 1 : Nat) : Int) = 1 + (w : Int) by omega] at x1
        rw [show (w : Int) + 1 = 1 + (w : Int) by omega] at ha'
        have c1 : (1 : Int) + (w : Int) - 1 = (w : Int) := by omega
        simp only [run_r, seq_r, cont_nx, cont_rt, cont_bk, cont_ct, if_r, sel_t, sel_f, ife_r, sele_t, sele_f, and_r, or_r, sela_t, sela_f, selo_t, selo_f, out_rt, out_rtl, out_rtO, out_nx, setD, setO, retS, retO, retV, retN, nilS, fgt, isB, truB, truD, notB, orV, andV, notV, b1, b2, bA, aC, aN, vr, vw, cst, nth, sset, bnd_r, opt_s, cond_true, cond_false, eTup_0, eTup_1, eTup_2, eTup_3, eLst_0, eLst_1, eLst_2, eLst_3, callE, mkE, List.replicate_succ, List.replicate_zero, List.length_cons, List.length_nil, List.length_map, if_true, if_false, Nat.reduceAdd, Nat.reduceSub, Bool.false_and, Bool.and_true, Bool.true_and, Bool.and_false, Bool.not_true, Bool.not_false, Bool.true_or, Bool.or_true, Bool.false_or, Bool.or_false, reduceIte, Bool.false_eq_true, dGt, dLt, dGe, dLe, dCmp, dSub, dNeg, aLen, seqD_tup, seqD_lst, seqD_T, Option.map_some, dIsN, dNotN, isNonD_non, isNonD_bl, isNonD_int, isNonD_str, isNonD_tup, isNonD_lst, isNonD_T, forL_nil, forL_cons, loop_nx, loop_ct, loop_bk, loop_rt, frzS, frzE, appS, parS, x1, c1, x2, ha', appO_ok (ds := rowB (i + 1) (w + 1)) (by unfold rowB; rw [List.length_map, List.length_range]; omega), rowB_snoc])
    have h0 : rowB (i + 1) (0 + 1) = [.tup [.int 1]] := by
      show [bx (i + 1) 0] = _
      rw [bx_z]
    rw [h0] at loop
    simp only [run_r, seq_r, cont_nx, cont_rt, cont_bk, cont_ct, if_r, sel_t, sel_f, ife_r, sele_t, sele_f, and_r, or_r, sela_t, sela_f, selo_t, selo_f, out_rt, out_rtl, out_rtO, out_nx, setD, setO, retS, retO, retV, retN, nilS, fgt, isB, truB, truD, notB, orV, andV, notV, b1, b2, bA, aC, aN, vr, vw, cst, nth, sset, bnd_r, opt_s, cond_true, cond_false, eTup_0, eTup_1, eTup_2, eTup_3, eLst_0, eLst_1, eLst_2, eLst_3, callE, mkE, List.replicate_succ, List.replicate_zero, List.length_cons, List.length_nil, List.length_map, if_true, if_false, Nat.reduceAdd, Nat.reduceSub, Bool.false_and, Bool.and_true, Bool.true_and, Bool.and_false, Bool.not_true, Bool.not_false, Bool.true_or, Bool.or_true, Bool.false_or, Bool.or_false, reduceIte, Bool.false_eq_true, dGt, dLt, dGe, dLe, dCmp, dSub, dNeg, aLen, seqD_tup, seqD_lst, seqD_T, Option.map_some, dIsN, dNotN, isNonD_non, isNonD_bl, isNonD_int, isNonD_str, isNonD_tup, isNonD_lst, isNonD_T, forL_nil, forL_cons, loop_nx, loop_ct, loop_bk, loop_rt, frzS, frzE, appS, parS, loop]
  have outer := loopN (a := 0) (m := a) (it := itR1 (vw 0)) (b := gN 3) (body := b_box_polynomial_2) (fun i => [.d (.int (a : Int)), .d (.int (b : Int)), .d (.lst (rowB i (b + 1))), .un, .un, .un])
    (by
      simp only [itR1, run_r, seq_r, cont_nx, cont_rt, cont_bk, cont_ct, if_r, sel_t, sel_f, ife_r, sele_t, sele_f, and_r, or_r, sela_t, sela_f, selo_t, selo_f, out_rt, out_rtl, out_rtO, out_nx, setD, setO, retS, retO, retV, retN, nilS, fgt, isB, truB, truD, notB, orV, andV, notV, b1, b2, bA, aC, aN, vr, vw, cst, nth, sset, bnd_r, opt_s, cond_true, cond_false, eTup_0, eTup_1, eTup_2, eTup_3, eLst_0, eLst_1, eLst_2, eLst_3, callE, mkE, List.replicate_succ, List.replicate_zero, List.length_cons, List.length_nil, List.length_map, if_true, if_false, Nat.reduceAdd, Nat.reduceSub, Bool.false_and, Bool.and_true, Bool.true_and, Bool.and_false, Bool.not_true, Bool.not_false, Bool.true_or, Bool.or_true, Bool.false_or, Bool.or_false, reduceIte, Bool.false_eq_true, dGt, dLt, dGe, dLe, dCmp, dSub, dNeg, aLen, seqD_tup, seqD_lst, seqD_T, Option.map_some, dIsN, dNotN, isNonD_non, isNonD_bl, isNonD_int, isNonD_str, isNonD_tup, isNonD_lst, isNonD_T, forL_nil, forL_cons, loop_nx, loop_ct, loop_bk, loop_rt, frzS, frzE, appS, parS]
      rw [rg1_rng (by omega), opt_s])
    (fun i hi => ⟨_, rfl, inner i (by omega)⟩)
  simp only [run_r, seq_r, cont_nx, cont_rt, cont_bk, cont_ct, if_r, sel_t, sel_f, ife_r, sele_t, sele_f, and_r, or_r, sela_t, sela_f, selo_t, selo_f, out_rt, out_rtl, out_rtO, out_nx, setD, setO, retS, retO, retV, retN, nilS, fgt, isB, truB, truD, notB, orV, andV, notV, b1, b2, bA, aC, aN, vr, vw, cst, nth, sset, bnd_r, opt_s, cond_true, cond_false, eTup_0, eTup_1, eTup_2, eTup_3, eLst_0, eLst_1, eLst_2, eLst_3, callE, mkE, List.replicate_succ, List.replicate_zero, List.length_cons, List.length_nil, List.length_map, if_true, if_false, Nat.reduceAdd, Nat.reduceSub, Bool.false_and, Bool.and_true, Bool.true_and, Bool.and_false, Bool.not_true, Bool.not_false, Bool.true_or, Bool.or_true, Bool.false_or, Bool.or_false, reduceIte, Bool.false_eq_true, dGt, dLt, dGe, dLe, dCmp, dSub, dNeg, aLen, seqD_tup, seqD_lst, seqD_T, Option.map_some, dIsN, dNotN, isNonD_non, isNonD_bl, isNonD_int, isNonD_str, isNonD_tup, isNonD_lst, isNonD_T, forL_nil, forL_cons, loop_nx, loop_ct, loop_bk, loop_rt, frzS, frzE, appS, parS, e0, outer, ixD (rowB_get (a := a) (n := b + 1) (w := b) (by omega))]
end LbB
end
section
/-! PK: series of numbers from 0 on as one number: a digit of w bits for each coefficient; beside it a bound of their sum. -/
namespace PK
open PS
def pk (w : Nat) : List Nat → Nat
  | [] => 0
  | d :: r => d + 2 ^ w * pk w r
theorem pk_add (w : Nat) : ∀ (a b : List Nat), a.length = b.length → pk w (List.zipWith (fun x y => x + y) a b) = pk w a + pk w b
  | [], [], _ => rfl
  | x :: a, y :: b, h => by
    rw [List.zipWith_cons_cons, pk, pk, pk, pk_add w a b (by simpa using h), Nat.mul_add]; omega
theorem pk_zero (w : Nat) : ∀ n : Nat, pk w (List.replicate n 0) = 0
  | 0 => rfl
  | n + 1 => by rw [List.replicate_succ, pk, pk_zero w n]; simp
theorem pk_app (w : Nat) : ∀ (a b : List Nat), pk w (a ++ b) = pk w a + 2 ^ (w * a.length) * pk w b
  | [], b => by simp [pk]
  | x :: a, b => by
    rw [List.cons_append, pk, pk, pk_app w a b, List.length_cons, Nat.mul_succ, Nat.pow_add, Nat.mul_add, Nat.mul_assoc, Nat.add_assoc]
    congr 2
    rw [← Nat.mul_assoc, ← Nat.mul_assoc, Nat.mul_comm (2 ^ w)]
theorem pk_lt (w : Nat) : ∀ (a : List Nat), (∀ x ∈ a, x < 2 ^ w) → pk w a < 2 ^ (w * a.length)
  | [], _ => by simp [pk]
  | x :: a, h => by
    have h1 := h x (by simp)
    have h2 := pk_lt w a fun y hy => h y (by simp [hy])
    rw [pk, List.length_cons, Nat.mul_succ, Nat.pow_add, Nat.mul_comm (2 ^ (w * a.length))]
    have h3 : 2 ^ w * (pk w a + 1) ≤ 2 ^ w * 2 ^ (w * a.length) := Nat.mul_le_mul_left _ h2
    rw [Nat.mul_add] at h3
    omega
theorem pk_take (w n : Nat) (a : List Nat) (h : ∀ x ∈ a, x < 2 ^ w) (hn : n ≤ a.length) : pk w (a.take n) = pk w a % 2 ^ (w * n) := by
  have e := pk_app w (a.take n) (a.drop n)
  rw [List.take_append_drop, List.length_take, Nat.min_eq_left hn] at e
  have h2 := pk_lt w (a.take n) fun x hx => h x (List.mem_of_mem_take hx)
  rw [List.length_take, Nat.min_eq_left hn] at h2
  rw [e, Nat.add_mul_mod_self_left, Nat.mod_eq_of_lt h2]
theorem pk_inj (w : Nat) : ∀ {a b : List Nat}, a.length = b.length → (∀ x ∈ a, x < 2 ^ w) → (∀ x ∈ b, x < 2 ^ w) → pk w a = pk w b → a = b
  | [], [], _, _, _, _ => rfl
  | x :: a, y :: b, h, ha, hb, e => by
    have h1 := ha x (by simp)
    have h2 := hb y (by simp)
    rw [pk, pk] at e
    have e1 : x = y := by
      have := congrArg (· % 2 ^ w) e
      simp only [Nat.add_mul_mod_self_left] at this
      rwa [Nat.mod_eq_of_lt h1, Nat.mod_eq_of_lt h2] at this
    subst e1
    have e2 : pk w a = pk w b := Nat.eq_of_mul_eq_mul_left (Nat.pow_pos (by decide)) (by omega : 2 ^ w * pk w a = 2 ^ w * pk w b)
    rw [pk_inj w (by simpa using h) (fun z hz => ha z (by simp [hz])) (fun z hz => hb z (by simp [hz])) e2]
theorem le_sum : ∀ {a : List Nat} {x : Nat}, x ∈ a → x ≤ a.sum
  | y :: a, x, h => by
    rw [List.sum_cons]
    rcases List.mem_cons.mp h with rfl | h
    · omega
    · have := le_sum h; omega
theorem sum_zip : ∀ (a b : List Nat), a.length = b.length → (List.zipWith (fun x y => x + y) a b).sum = a.sum + b.sum
  | [], [], _ => rfl
  | x :: a, y :: b, h => by rw [List.zipWith_cons_cons, List.sum_cons, List.sum_cons, List.sum_cons, sum_zip a b (by simpa using h)]; omega
theorem sum_take : ∀ (n : Nat) (a : List Nat), (a.take n).sum ≤ a.sum
  | 0, _ => by simp
  | n + 1, [] => by simp
  | n + 1, x :: a => by rw [List.take_succ_cons, List.sum_cons, List.sum_cons]; have := sum_take n a; omega
/-- the number x.1 is the series f up to N, its sum at most x.2 (told only where x.2 fits) -/
def Vl (w N : Nat) (x : Nat × Nat) (f : Nat → Int) : Prop := x.2 < 2 ^ w → ∃ l : List Nat, lst N f = l.map Int.ofNat ∧ pk w l = x.1 ∧ l.sum ≤ x.2
theorem map_cast_len {N : Nat} {f : Nat → Int} {l : List Nat} (h : lst N f = l.map Int.ofNat) : l.length = N := by
  have := congrArg List.length h
  rw [lst_len, List.length_map] at this
  exact this.symm
theorem Vl.congr {w N : Nat} {x : Nat × Nat} {f g : Nat → Int} (h : Vl w N x f) (e : Ag N f g) : Vl w N x g := fun hx => by
  obtain ⟨l, h1, h2⟩ := h hx
  exact ⟨l, by rw [← h1]; exact e.symm.lst, h2⟩
theorem Vl.same {w N : Nat} {x y : Nat × Nat} {f g : Nat → Int} (h : Vl w N x f) (k : Vl w N y g) (e : x.1 = y.1) (hx : x.2 < 2 ^ w) (hy : y.2 < 2 ^ w) : Ag N f g := by
  obtain ⟨l, h1, h2, h3⟩ := h hx
  obtain ⟨m, k1, k2, k3⟩ := k hy
  have e2 : l = m := pk_inj w ((map_cast_len h1).trans (map_cast_len k1).symm) (fun z hz => by have := le_sum hz; omega) (fun z hz => by have := le_sum hz; omega) (by rw [h2, k2, e])
  exact lst_eq (by rw [h1, k1, e2])
def zero : Nat × Nat := (0, 0)
def add (x y : Nat × Nat) : Nat × Nat := (x.1 + y.1, x.2 + y.2)
def sh (w N k : Nat) (x : Nat × Nat) : Nat × Nat := ((x.1 * 2 ^ (w * k)) % 2 ^ (w * N), x.2)
theorem Vl.zero (w N : Nat) : Vl w N zero (fun _ => 0) := fun _ => ⟨List.replicate N 0, by unfold lst; rw [List.map_replicate]; exact (List.map_const' ..).trans (by simp), pk_zero w N, by simp [PK.zero]⟩
theorem Vl.add {w N : Nat} {x y : Nat × Nat} {f g : Nat → Int} (h : Vl w N x f) (k : Vl w N y g) : Vl w N (PK.add x y) (fun t => f t + g t) := fun hx => by
  have hx : x.2 + y.2 < 2 ^ w := hx
  obtain ⟨l, h1, h2, h3⟩ := h (by omega)
  obtain ⟨m, k1, k2, k3⟩ := k (by omega)
  have hl : l.length = m.length := (map_cast_len h1).trans (map_cast_len k1).symm
  refine ⟨List.zipWith (fun x y => x + y) l m, ?_, by rw [pk_add w l m hl, h2, k2]; rfl, by rw [sum_zip l m hl]; exact Nat.add_le_add h3 k3⟩
  have e : lst N (fun t => f t + g t) = List.zipWith (fun a b => a + b) (lst N f) (lst N g) := by unfold lst; rw [List.zipWith_map, List.zipWith_self]
  rw [e, h1, k1, List.zipWith_map, List.map_zipWith]
  rfl
theorem Vl.sh {w N : Nat} {x : Nat × Nat} {f : Nat → Int} (h : Vl w N x f) (k : Nat) : Vl w N (PK.sh w N k x) (Sh k f) := fun hx => by
  have hx : x.2 < 2 ^ w := hx
  obtain ⟨l, h1, h2, h3⟩ := h hx
  have hl := map_cast_len h1
  refine ⟨(List.replicate k 0 ++ l).take N, ?_, ?_, ?_⟩
  · rw [lSh_eq, h1]
    unfold lSh
    rw [List.length_map, hl, List.map_take, List.map_append, List.map_replicate]; rfl
  · rw [pk_take w N _ (fun z hz => ?_) (by simp [hl]), pk_app, pk_zero, List.length_replicate, h2, Nat.zero_add, Nat.mul_comm]; rfl
    rcases List.mem_append.mp hz with q | q
    · rw [(List.mem_replicate.mp q).2]; exact Nat.pow_pos (by decide)
    · have := le_sum q; omega
  · refine Nat.le_trans (sum_take N _) ?_
    rw [List.sum_append, List.sum_replicate_nat]
    show k * 0 + l.sum ≤ x.2
    omega
theorem Vl.one {w N : Nat} (hN : 1 ≤ N) : Vl w N (1, 1) one := fun hx => by
  obtain ⟨n, rfl⟩ : ∃ n, N = n + 1 := ⟨N - 1, by omega⟩
  refine ⟨1 :: List.replicate n 0, ?_, by rw [pk, pk_zero]; simp, by simp⟩
  unfold lst
  rw [List.range_succ_eq_map, List.map_cons, List.map_cons, List.map_map, List.map_replicate]
  congr 1
  have : (PS.one ∘ Nat.succ) = fun _ => (0 : Int) := by funext t; show (if t + 1 = 0 then (1 : Int) else 0) = 0; rw [if_neg (by omega)]
  rw [this]
  exact (List.map_const' ..).trans (by simp)
/-- times 1 + x^k -/
def sp (w N k : Nat) (x : Nat × Nat) : Nat × Nat := add x (sh w N k x)
theorem Vl.sp {w N : Nat} {x : Nat × Nat} {f : Nat → Int} (h : Vl w N x f) (k : Nat) : Vl w N (PK.sp w N k x) (S k f) := h.add (h.sh k)
theorem V_double {k : Nat} (hk : 0 < k) (f : Nat → Int) : V k f = V (2 * k) (S k f) := by
  refine V_uniq (by omega) ?_
  have e : W (2 * k) (V k f) = S k (W k (V k f)) := by
    funext t
    generalize V k f = g
    show g t - (if 2 * k ≤ t then g (t - 2 * k) else 0) = (g t - if k ≤ t then g (t - k) else 0) + if k ≤ t then (g (t - k) - if k ≤ t - k then g (t - k - k) else 0) else 0
    by_cases h1 : 2 * k ≤ t
    · rw [if_pos h1, if_pos (by omega), if_pos (by omega), if_pos (by omega), show t - k - k = t - 2 * k by omega]; omega
    · rw [if_neg h1]
      by_cases h2 : k ≤ t
      · rw [if_pos h2, if_pos h2, if_neg (by omega)]; omega
      · rw [if_neg h2, if_neg h2]; omega
  rw [e, W_V hk]
/-- divided by 1 - x^k: doubling while it matters -/
def vd (w N : Nat) : Nat → Nat → Nat × Nat → Nat × Nat
  | 0, _, x => x
  | j + 1, k, x => if k < N then vd w N j (2 * k) (sp w N k x) else x
theorem Vl.vd {w N : Nat} : ∀ (j k : Nat) {x : Nat × Nat} {f : Nat → Int}, 0 < k → N ≤ k * 2 ^ j → Vl w N x f → Vl w N (PK.vd w N j k x) (V k f)
  | 0, k, x, f, hk, hj, h => h.congr (v_high f (by simpa using hj)).symm
  | j + 1, k, x, f, hk, hj, h => by
    unfold PK.vd
    by_cases c : k < N
    · rw [if_pos c, V_double hk]
      exact Vl.vd j (2 * k) (by omega) (by rw [Nat.pow_succ] at hj; rw [Nat.mul_assoc, Nat.mul_left_comm, Nat.mul_comm 2] ; exact hj) (h.sp k)
    · rw [if_neg c]
      exact h.congr (v_high f (by omega)).symm
/-- times a number -/
def mul (c : Nat) (x : Nat × Nat) : Nat × Nat := (c * x.1, c * x.2)
theorem pk_mul (w c : Nat) : ∀ a : List Nat, pk w (a.map (c * ·)) = c * pk w a
  | [] => rfl
  | x :: a => by rw [List.map_cons, pk, pk, pk_mul w c a, Nat.mul_add, Nat.mul_left_comm]
theorem sum_mul (c : Nat) : ∀ a : List Nat, (a.map (c * ·)).sum = c * a.sum
  | [] => rfl
  | x :: a => by rw [List.map_cons, List.sum_cons, List.sum_cons, sum_mul c a, Nat.mul_add]
/-- sums over a list -/
def addL (w N : Nat) : List (Nat × Nat) → Nat × Nat
  | [] => zero
  | x :: r => add x (addL w N r)
/-- one coefficient -/
def dig (w : Nat) (x : Nat × Nat) (t : Nat) : Nat := (x.1 / 2 ^ (w * t)) % 2 ^ w
theorem pk_dig (w : Nat) : ∀ (a : List Nat) (t : Nat), (∀ x ∈ a, x < 2 ^ w) → t < a.length → (pk w a / 2 ^ (w * t)) % 2 ^ w = a.getD t 0
  | x :: a, 0, h, _ => by
    have := h x (by simp)
    rw [pk]
    simp [Nat.add_mul_mod_self_left, Nat.mod_eq_of_lt this]
  | x :: a, t + 1, h, ht => by
    have h1 := h x (by simp)
    have ih := pk_dig w a t (fun y hy => h y (by simp [hy])) (by simpa using ht)
    rw [pk, Nat.mul_succ, Nat.add_comm (w * t), Nat.pow_add, ← Nat.div_div_eq_div_mul, Nat.add_mul_div_left _ _ (Nat.pow_pos (by decide)), Nat.div_eq_of_lt h1, Nat.zero_add, ih]
    simp
theorem Vl.at {w N : Nat} {x : Nat × Nat} {f : Nat → Int} (h : Vl w N x f) (hx : x.2 < 2 ^ w) {t : Nat} (ht : t < N) : f t = (dig w x t : Int) := by
  obtain ⟨l, h1, h2, h3⟩ := h hx
  have hl := map_cast_len h1
  have e := lst_get N f ht
  rw [h1, List.getElem?_map] at e
  have hd := pk_dig w l t (fun z hz => by have := le_sum hz; omega) (by omega)
  unfold dig
  rw [← h2, hd]
  rw [List.getElem?_eq_getElem (by omega)] at e
  rw [List.getD_eq_getElem?_getD, List.getElem?_eq_getElem (by omega)]
  exact (Option.some.inj e).symm
/-- the sum of the digits, told anew -/
def tight (w : Nat) (x : Nat × Nat) : Nat × Nat := if x.2 < 2 ^ w - 1 then (x.1, x.1 % (2 ^ w - 1)) else (x.1, 2 ^ w)
theorem pk_mod (w : Nat) : ∀ l : List Nat, pk w l % (2 ^ w - 1) = l.sum % (2 ^ w - 1)
  | [] => rfl
  | d :: r => by
    rw [pk, List.sum_cons]
    have h : 2 ^ w * pk w r = (2 ^ w - 1) * pk w r + pk w r := by
      have : 1 ≤ 2 ^ w := Nat.pow_pos (by decide)
      rw [Nat.sub_mul, Nat.one_mul, Nat.sub_add_cancel]
      exact Nat.le_mul_of_pos_left _ this
    rw [h, Nat.add_mod, Nat.mul_add_mod_self_left, pk_mod w r, ← Nat.add_mod]
theorem Vl.tight {w N : Nat} {x : Nat × Nat} {f : Nat → Int} (h : Vl w N x f) : Vl w N (PK.tight w x) f := fun hx => by
  unfold PK.tight at hx ⊢
  by_cases c : x.2 < 2 ^ w - 1
  · rw [if_pos c] at hx ⊢
    obtain ⟨l, h1, h2, h3⟩ := h (by omega)
    refine ⟨l, h1, h2, ?_⟩
    show l.sum ≤ x.1 % (2 ^ w - 1)
    rw [← h2, pk_mod, Nat.mod_eq_of_lt (by omega)]
    exact Nat.le_refl _
  · rw [if_neg c] at hx
    exact absurd hx (Nat.lt_irrefl _)
abbrev NN := Nat × Nat
/-- sums of those series that p lets in -/
def Sm (p : Nat → Bool) (f : Nat → Nat → Int) (L : List Nat) (t : Nat) : Int := (L.map fun l => if p l = true then f l t else 0).sum
def sel (p : Nat → Bool) : Nat → List NN → NN
  | _, [] => zero
  | i, x :: r => if p i = true then add x (sel p (i + 1) r) else sel p (i + 1) r
/-- the list tells the series from i on -/
def VL (w N : Nat) (f : Nat → Nat → Int) : Nat → List NN → Prop
  | _, [] => True
  | i, x :: r => Vl w N x (f i) ∧ VL w N f (i + 1) r
theorem sel_ok {w N : Nat} (p : Nat → Bool) (f : Nat → Nat → Int) : ∀ (xs : List NN) (i : Nat), VL w N f i xs → Vl w N (sel p i xs) (Sm p f (List.range' i xs.length))
  | [], i, _ => by
    have : Sm p f (List.range' i 0) = fun _ => 0 := rfl
    rw [List.length_nil, this]
    exact Vl.zero w N
  | x :: r, i, h => by
    have ih := sel_ok p f r (i + 1) h.2
    unfold sel
    by_cases c : p i = true
    · rw [if_pos c]
      have e : Sm p f (List.range' i (x :: r).length) = fun t => f i t + Sm p f (List.range' (i + 1) r.length) t := by
        funext t
        unfold Sm
        rw [List.length_cons, List.range'_succ, List.map_cons, List.sum_cons, if_pos c]
      rw [e]
      exact h.1.add ih
    · rw [if_neg c]
      have e : Sm p f (List.range' i (x :: r).length) = Sm p f (List.range' (i + 1) r.length) := by
        funext t
        unfold Sm
        rw [List.length_cons, List.range'_succ, List.map_cons, List.sum_cons, if_neg c, Int.zero_add]
      rw [e]
      exact ih
def mk (g : Nat → NN) : Nat → Nat → List NN
  | _, 0 => []
  | i, n + 1 => g i :: mk g (i + 1) n
theorem mk_len (g : Nat → NN) : ∀ (n i : Nat), (mk g i n).length = n
  | 0, _ => rfl
  | n + 1, i => congrArg (· + 1) (mk_len g n (i + 1))
theorem mk_ok {w N : Nat} {f : Nat → Nat → Int} {g : Nat → NN} (h : ∀ i, Vl w N (g i) (f i)) : ∀ (n i : Nat), VL w N f i (mk g i n)
  | 0, _ => trivial
  | n + 1, i => ⟨h i, mk_ok h n (i + 1)⟩
theorem VL.at {w N : Nat} {f : Nat → Nat → Int} : ∀ {xs : List NN} {i j : Nat} {x : NN}, VL w N f i xs → xs[j]? = some x → Vl w N x (f (i + j))
  | [], _, _, _, _, h => by simp at h
  | y :: r, i, 0, x, h, e => by simp at e; subst e; exact h.1
  | y :: r, i, j + 1, x, h, e => by
    have := VL.at (i := i + 1) (j := j) h.2 (by simpa using e)
    rwa [show i + 1 + j = i + (j + 1) by omega] at this
/-- products of 1 / (1 - x^p), p up to n where ok -/
def Rm (ok : Nat → Bool) : Nat → Nat → Int
  | 0 => one
  | p + 1 => if ok (p + 1) = true then V (p + 1) (Rm ok p) else Rm ok p
theorem Rm_more (ok : Nat → Bool) {n : Nat} : ∀ d : Nat, Ag (n + 1) (Rm ok (n + d)) (Rm ok n)
  | 0 => .refl _
  | d + 1 => by
    rw [← Nat.add_assoc, Rm]
    split
    · exact (v_high _ (by omega)).trans (Rm_more ok d)
    · exact Rm_more ok d
def nRm (w N J : Nat) (ok : Nat → Bool) : Nat → NN
  | 0 => (1, 1)
  | p + 1 => if ok (p + 1) = true then tight w (vd w N J (p + 1) (nRm w N J ok p)) else nRm w N J ok p
theorem nRm_ok {w N J : Nat} (hN : 1 ≤ N) (hJ : N ≤ 2 ^ J) (ok : Nat → Bool) : ∀ p, Vl w N (nRm w N J ok p) (Rm ok p)
  | 0 => Vl.one hN
  | p + 1 => by
    unfold nRm Rm
    split
    · refine Vl.tight (Vl.vd J (p + 1) (by omega) ?_ (nRm_ok hN hJ ok p))
      exact Nat.le_trans hJ (Nat.le_mul_of_pos_left _ (by omega))
    · exact nRm_ok hN hJ ok p
end PK
end
section
set_option maxHeartbeats 1000000
set_option exponentiation.threshold 1000000
/-! Lecture hall rows: steps 1, 2, .., n: (t + 1) ^ n, by Euler's numbers, up to t = 999, n = 8. -/
namespace P59
open PS PK
def ad2 : List Nat → List Nat → List Nat
  | [], b => b
  | x :: a, [] => x :: a
  | x :: a, y :: b => (x + y) :: ad2 a b
def ev (fin : Nat → Int) : List Nat → Nat → Int
  | [], _ => 0
  | x :: l, m => x * fin m + ev fin l (m + 1)
theorem ev_ad2 (fin : Nat → Int) : ∀ (a b : List Nat) (m : Nat), ev fin (ad2 a b) m = ev fin a m + ev fin b m
  | [], b, m => by rw [ad2, ev]; omega
  | x :: a, [], m => by rw [ad2, ev, ev]; omega
  | x :: a, y :: b, m => by
    rw [ad2, ev, ev, ev, ev_ad2 fin a b, Int.natCast_add, Int.add_mul]
    omega
def sumN : Nat → (Nat → List Nat) → List Nat
  | 0, _ => []
  | n + 1, f => ad2 (sumN n f) (f n)
theorem ev_sumN (fin : Nat → Int) (f : Nat → List Nat) (m : Nat) : ∀ n, ev fin (sumN n f) m = sm n fun i => ev fin (f i) m
  | 0 => rfl
  | n + 1 => by rw [sumN, ev_ad2, ev_sumN fin f m n, sm_succ]
/-- index rows by their rises -/
def AW : Nat → List Nat → Nat → List Nat
  | _, [], _ => [1]
  | s, s' :: rest, r => sumN s' fun r' => if r * s' < r' * s then 0 :: AW s' rest r' else AW s' rest r'
theorem A_ev (fin : Nat → Int) : ∀ (rest : List Nat) (s r m : Nat), A fin s rest r m = ev fin (AW s rest r) m
  | [], s, r, m => by rw [A, AW, ev, ev]; omega
  | s' :: rest, s, r, m => by
    rw [A, AW, ev_sumN]
    refine sm_congr fun r' _ => ?_
    rw [A_ev fin rest]
    unfold asc
    by_cases c : r * s' < r' * s
    · rw [if_pos c, if_pos c, ev]; simp
    · rw [if_neg c, if_neg c, Nat.add_zero]
theorem hN_V (j : Nat) : (fun v => (hN (j + 1) v : Int)) = V 1 (fun v => (hN j v : Int)) := by
  funext t
  induction t with
  | zero => rw [V_eq (by decide), hN_0, hN_0]; rfl
  | succ t ih => rw [V_eq (by decide), if_pos (by omega), Nat.add_sub_cancel, ← ih, hN_S, Int.natCast_add, Int.add_comm]
theorem hN_V0 : (fun v => (hN 0 v : Int)) = V 1 one := by
  funext t
  have z : ∀ v, hN 0 v = 1 := fun _ => by rw [hN]
  rw [z]
  induction t with
  | zero => rw [V_eq (by decide)]; rfl
  | succ t ih => rw [V_eq (by decide), if_pos (by omega), Nat.add_sub_cancel, ← ih]; rfl
def hNum : Nat → NN
  | 0 => tight 128 (vd 128 1000 10 1 (1, 1))
  | j + 1 => tight 128 (vd 128 1000 10 1 (hNum j))
theorem hNum_ok : ∀ j, Vl 128 1000 (hNum j) (fun v => (hN j v : Int))
  | 0 => by rw [hN_V0]; exact Vl.tight (Vl.vd 10 1 (by decide) (by decide) (Vl.one (by decide)))
  | j + 1 => by rw [hN_V]; exact Vl.tight (Vl.vd 10 1 (by decide) (by decide) (hNum_ok j))
theorem mulc {w N c : Nat} {x : NN} {f : Nat → Int} (h : Vl w N x f) (hx : x.2 < 2 ^ w) : Vl w N (PK.mul c x) (fun t => (c : Int) * f t) := fun _ => by
  obtain ⟨l, h1, h2, h3⟩ := h hx
  refine ⟨l.map (c * ·), ?_, ?_, ?_⟩
  · have : lst N (fun t => (c : Int) * f t) = (lst N f).map ((c : Int) * ·) := by unfold lst; rw [List.map_map]; rfl
    rw [this, h1, List.map_map, List.map_map]
    exact List.map_congr_left fun a _ => (Int.natCast_mul c a).symm
  · rw [pk_mul, h2]; rfl
  · rw [sum_mul]; exact Nat.mul_le_mul_left _ h3
def wN (x : NN) : List Nat → Nat → NN
  | [], _ => zero
  | c :: l, m => add (PK.mul c (sh 128 1000 m x)) (wN x l (m + 1))
theorem wN_ok {n : Nat} (hx : (hNum n).2 < 2 ^ 128) : ∀ (l : List Nat) (m : Nat), Vl 128 1000 (wN (hNum n) l m) (fun t => ev (fun m => H n ((t : Int) - m)) l m)
  | [], m => Vl.zero 128 1000
  | c :: l, m => by
    have e : (fun t : Nat => ev (fun m => H n ((t : Int) - m)) (c :: l) m) = fun t => (c : Int) * Sh m (fun v => (hN n v : Int)) t + ev (fun m => H n ((t : Int) - m)) l (m + 1) := by
      funext t
      rw [ev]
      congr 2
      unfold Sh
      by_cases h : m ≤ t
      · rw [if_pos h, show (t : Int) - (m : Int) = ((t - m : Nat) : Int) by omega, H_nat]
      · rw [if_neg h, H_neg (by omega)]
    rw [e]
    exact (mulc ((hNum_ok n).sh m) hx).add (wN_ok hx l (m + 1))
def up1 (n : Nat) : List Nat := (List.range n).map (· + 1)
def pows (n : Nat) : List Nat := (List.range 1000).map fun t => (t + 1) ^ n
theorem pows_ok (n : Nat) : Vl 128 1000 (pk 128 (pows n), (pows n).sum) (fun t => (((t + 1) ^ n : Nat) : Int)) := fun _ => ⟨pows n, by unfold lst pows; rw [List.map_map]; rfl, rfl, Nat.le_refl _⟩
def chk (n : Nat) : Bool := Nat.beq (wN (hNum n) (AW 1 (up1 n) 0) 0).1 (pk 128 (pows n)) && Nat.blt (hNum n).2 (2 ^ 128) && Nat.blt (wN (hNum n) (AW 1 (up1 n) 0) 0).2 (2 ^ 128) && Nat.blt (pows n).sum (2 ^ 128)
theorem chk_all : ∀ n : Fin 8, chk (n.val + 1) = true := by decide +kernel
theorem lecture {t n : Nat} (h1 : 1 ≤ n) (h2 : n ≤ 8) (ht : t < 1000) : A (fun m => H n ((t : Int) - m)) 1 (up1 n) 0 0 = (((t + 1) ^ n : Nat) : Int) := by
  have h := chk_all ⟨n - 1, by omega⟩
  rw [show (⟨n - 1, by omega⟩ : Fin 8).val + 1 = n by show n - 1 + 1 = n; omega] at h
  unfold chk at h
  simp only [Bool.and_eq_true] at h
  obtain ⟨⟨⟨h1, h2⟩, h3⟩, h4⟩ := h
  rw [A_ev]
  exact (wN_ok (Nat.le_of_ble_eq_true h2) (AW 1 (up1 n) 0) 0).same (pows_ok n) (Nat.eq_of_beq_eq_true h1) (Nat.le_of_ble_eq_true h3) (Nat.le_of_ble_eq_true h4) t ht
end P59
end
section
set_option maxHeartbeats 1000000
namespace K59
open PySem PySem.Spec PyProof.Rows L2 FL Lb LbD P59
/-! dicts that are filled by adding up -/
section
variable {α β γ : Type} [DecidableEq α] [DecidableEq γ]
def Bx (B : α → Prop) (d : List (α × Int)) : Prop := nd d ∧ ∀ k ∈ d.map (·.1), B k
theorem Bx.nil {B : α → Prop} : Bx B [] := ⟨.nil, by simp⟩
theorem Bx.ad {B : α → Prop} {d : List (α × Int)} (h : Bx B d) {k : α} (hk : B k) (v : Int) : Bx B (LbD.ad d k v) := ⟨nd_ad h.1, fun j hj => by
  rcases mem_pt hj with q | q
  · exact h.2 j q
  · rw [q]; exact hk⟩
theorem Bx.len {B : α → Prop} {d : List (α × Int)} (h : Bx B d) {L : List α} (hL : ∀ k, B k → k ∈ L) : d.length ≤ L.length := nd_len h.1 fun k hk => hL k (h.2 k hk)
theorem fold1 {B : α → Prop} (v : Int) (kf : β → α) : ∀ (L : List β) (d : List (α × Int)), (∀ x ∈ L, B (kf x)) → Bx B d → Bx B (L.foldl (fun l x => LbD.ad l (kf x) v) d) ∧ ∀ w, sw w (L.foldl (fun l x => LbD.ad l (kf x) v) d) = sw w d + v * (L.map fun x => w (kf x)).sum
  | [], d, _, h => ⟨h, fun w => by simp⟩
  | x :: L, d, hL, h => by
    obtain ⟨h1, h2⟩ := fold1 v kf L (LbD.ad d (kf x) v) (fun y hy => hL y (by simp [hy])) (h.ad (hL x (by simp)) v)
    refine ⟨h1, fun w => ?_⟩
    rw [List.foldl_cons, h2 w, sw_ad w h.1, List.map_cons, List.sum_cons, Int.mul_add]
    omega
def nx (L : α → List β) (kf : α → β → γ) (acc : List (γ × Int)) (d : List (α × Int)) : List (γ × Int) := d.foldl (fun acc p => (L p.1).foldl (fun l x => LbD.ad l (kf p.1 x) p.2) acc) acc
theorem nx_facts {B : α → Prop} {B' : γ → Prop} (L : α → List β) (kf : α → β → γ) (hL : ∀ k, B k → ∀ x ∈ L k, B' (kf k x)) : ∀ (d : List (α × Int)) (acc : List (γ × Int)), (∀ p ∈ d, B p.1) → Bx B' acc → Bx B' (nx L kf acc d) ∧ ∀ w, sw w (nx L kf acc d) = sw w acc + sw (fun k => ((L k).map fun x => w (kf k x)).sum) d
  | [], acc, _, h => ⟨h, fun w => by unfold nx sw; simp⟩
  | p :: d, acc, hd, h => by
    obtain ⟨h1, h2⟩ := fold1 (B := B') p.2 (kf p.1) (L p.1) acc (hL p.1 (hd p (by simp))) h
    obtain ⟨h3, h4⟩ := nx_facts L kf hL d _ (fun q hq => hd q (by simp [hq])) h1
    refine ⟨h3, fun w => ?_⟩
    have := h4 w
    unfold nx at this ⊢
    rw [List.foldl_cons, this, h2 w, sw_cons]
    omega
theorem sw_congr {f g : α → Int} {d : List (α × Int)} (h : ∀ p ∈ d, f p.1 = g p.1) : sw f d = sw g d := by
  unfold sw
  congr 1
  exact List.map_congr_left fun p hp => by rw [h p hp]
theorem KeyE.comp {t : Bool} {ek : γ → D} (h : KeyE t ek) (f : α → γ) (hf : ∀ a b, f a = f b → a = b) : KeyE t (fun a => ek (f a)) := ⟨fun k => h.ok _, fun a b => by
  rw [h.has]
  by_cases c : a = b
  · subst c; simp
  · rw [decide_eq_false c, decide_eq_false fun z => c (hf a b z)]⟩
end
def eN (p : Nat × Nat) : D := .tup [.int (p.1 : Int), .int (p.2 : Int)]
def en (x : Nat) : D := .int (x : Int)
theorem keyN : KeyE true eN := KeyE.comp (ek := eP) keyP (fun p : Nat × Nat => ((p.1 : Int), (p.2 : Int))) fun a b h => by
  obtain ⟨a1, a2⟩ := a
  obtain ⟨b1, b2⟩ := b
  simp only [Prod.mk.injEq] at h
  rw [show a1 = b1 by omega, show a2 = b2 by omega]
theorem keyn : KeyE false en := KeyE.comp (ek := D.int) keyI (fun x : Nat => (x : Int)) fun a b h => by omega
abbrev dR (l : List ((Nat × Nat) × Int)) : D := dD true eN D.int l
abbrev dX (l : List (Nat × Int)) : D := dD false en D.int l
def sI (S : List Nat) : List Int := S.map fun s : Nat => (s : Int)
theorem sI_len (S : List Nat) : (sI S).length = S.length := List.length_map ..
theorem sI_ix {S : List Nat} {k : Nat} (h : k < S.length) : dIxA (T (sI S)) (.int (k : Int)) = some (.int ((S.getD k 0 : Nat) : Int)) := by
  have := ixT (p := sI S) (k := k) (by rw [sI_len]; exact h)
  have e : at' (sI S) k = ((S.getD k 0 : Nat) : Int) := by
    unfold at' sI
    rw [List.getD_eq_getElem?_getD, List.getD_eq_getElem?_getD, List.getElem?_map, List.getElem?_eq_getElem h]; rfl
  rw [e] at this
  exact this
theorem sm_list (n : Nat) (f : Nat → Int) : ((List.range n).map f).sum = sm n f := rfl
/-! index rows by rises -/
def BR (s k : Nat) (p : Nat × Nat) : Prop := p.1 < s ∧ p.2 ≤ k
theorem lenR {s k : Nat} {d : List ((Nat × Nat) × Int)} (h : Bx (BR s k) d) (hs : s ≤ 1000) (hk : k ≤ 1000) : d.length < 16000000 := by
  have h2 := h.len (L := (List.range 1000).flatMap fun a => (List.range 1001).map fun b => (a, b)) fun p hp => by
    obtain ⟨h1, h2⟩ := hp
    exact List.mem_flatMap.mpr ⟨p.1, List.mem_range.mpr (by omega), List.mem_map.mpr ⟨p.2, List.mem_range.mpr (by omega), rfl⟩⟩
  have h3 : ∀ n : Nat, ((List.range n).flatMap fun a => (List.range 1001).map fun b => (a, b)).length = n * 1001 := by
    intro n
    induction n with
    | zero => rfl
    | succ n ih => rw [List.range_succ (n := n), List.flatMap_append, List.length_append, ih]; simp; omega
  rw [h3] at h2
  omega
def r0 (S : List Nat) : List ((Nat × Nat) × Int) := (List.range (S.getD 0 0)).foldl (fun l x => LbD.ad l (x, asc 1 (S.getD 0 0) 0 x) 1) []
def rn (S : List Nat) (j : Nat) (d : List ((Nat × Nat) × Int)) : List ((Nat × Nat) × Int) := nx (fun _ => List.range (S.getD (j + 1) 0)) (fun p x => (x, p.2 + asc (S.getD j 0) (S.getD (j + 1) 0) p.1 x)) [] d
def rs (S : List Nat) : Nat → List ((Nat × Nat) × Int)
  | 0 => r0 S
  | j + 1 => rn S j (rs S j)
theorem asc_le (s s' r r' : Nat) : asc s s' r r' ≤ 1 := by unfold asc; split <;> omega
theorem drop_cons {S : List Nat} {k : Nat} (h : k < S.length) : S.drop k = S.getD k 0 :: S.drop (k + 1) := by
  rw [List.drop_eq_getElem_cons h]
  congr 1
  rw [List.getD_eq_getElem?_getD, List.getElem?_eq_getElem h]; rfl
theorem rs_facts (S : List Nat) : ∀ j, j < S.length → Bx (BR (S.getD j 0) (j + 1)) (rs S j) ∧ ∀ fin, sw (fun p => A fin (S.getD j 0) (S.drop (j + 1)) p.1 p.2) (rs S j) = A fin 1 S 0 0
  | 0, h => by
    obtain ⟨h1, h2⟩ := fold1 (B := BR (S.getD 0 0) 1) 1 (fun x => (x, asc 1 (S.getD 0 0) 0 x)) (List.range (S.getD 0 0)) [] (fun x hx => ⟨List.mem_range.mp hx, asc_le _ _ _ _⟩) .nil
    refine ⟨h1, fun fin => ?_⟩
    rw [show sw (fun p => A fin (S.getD 0 0) (S.drop (0 + 1)) p.1 p.2) (rs S 0) = _ from h2 _]
    have e := drop_cons h
    rw [List.drop_zero] at e
    conv => rhs; rw [e]
    rw [A]
    unfold sw sm
    simp
  | j + 1, h => by
    obtain ⟨i1, i2⟩ := rs_facts S j (by omega)
    obtain ⟨h1, h2⟩ := nx_facts (B := BR (S.getD j 0) (j + 1)) (B' := BR (S.getD (j + 1) 0) (j + 1 + 1)) (fun _ => List.range (S.getD (j + 1) 0)) (fun p x => (x, p.2 + asc (S.getD j 0) (S.getD (j + 1) 0) p.1 x)) (fun p hp x hx => by
      have := asc_le (S.getD j 0) (S.getD (j + 1) 0) p.1 x
      have := hp.2
      exact ⟨List.mem_range.mp hx, by show p.2 + _ ≤ _; omega⟩) (rs S j) [] (fun p hp => i1.2 p.1 (List.mem_map_of_mem hp)) .nil
    refine ⟨h1, fun fin => ?_⟩
    rw [← i2 fin, drop_cons (k := j + 1) h]
    show sw _ (rn S j (rs S j)) = _
    unfold rn
    rw [h2]
    rw [show sw (fun p : Nat × Nat => A fin (S.getD (j + 1) 0) (S.drop (j + 1 + 1)) p.1 p.2) [] = 0 from rfl, Int.zero_add]
    exact sw_congr fun p _ => rfl
theorem key1 {S : List Nat} {x1 x4 x5 x6 x7 x8 x9 x10 : SV} {x : Nat} : setD 3 (eTup (aC (vr 2) (aC (ifE (isB (b2 dGt (vw 2) (cst (.int 0)))) (cst (.int 1)) (cst (.int 0))) aN))) [.d (T (sI S)), x1, .d (.int (x : Int)), .un, x4, x5, x6, x7, x8, x9, x10] = ret (.nx [.d (T (sI S)), x1, .d (.int (x : Int)), .d (eN (x, asc 1 (S.getD 0 0) 0 x)), x4, x5, x6, x7, x8, x9, x10]) := by
  by_cases h : (0 : Int) < (x : Int)
  · have e : asc 1 (S.getD 0 0) 0 x = 1 := by unfold asc; rw [if_pos (by omega)]
    rw [e]
    simp only [run_r, seq_r, cont_nx, cont_rt, cont_bk, cont_ct, if_r, sel_t, sel_f, ife_r, sele_t, sele_f, and_r, or_r, sela_t, sela_f, selo_t, selo_f, out_rt, out_rtl, out_rtO, out_nx, setD, setO, retS, retO, retV, retN, nilS, fgt, isB, truB, truD, notB, orV, andV, notV, b1, b2, bA, aC, aN, vr, vw, cst, nth, sset, bnd_r, opt_s, cond_true, cond_false, eTup_0, eTup_1, eTup_2, eTup_3, eLst_0, eLst_1, eLst_2, eLst_3, callE, mkE, List.replicate_succ, List.replicate_zero, List.length_cons, List.length_nil, List.length_map, if_true, if_false, Nat.reduceAdd, Nat.reduceSub, Bool.false_and, Bool.and_true, Bool.true_and, Bool.and_false, Bool.not_true, Bool.not_false, Bool.true_or, Bool.or_true, Bool.false_or, Bool.or_false, reduceIte, Bool.false_eq_true, dGt, dLt, dGe, dLe, dCmp, dSub, dNeg, aLen, seqD_tup, seqD_lst, seqD_T, Option.map_some, dIsN, dNotN, isNonD_non, isNonD_bl, isNonD_int, isNonD_str, isNonD_tup, isNonD_lst, isNonD_T, forL_nil, forL_cons, loop_nx, loop_ct, loop_bk, loop_rt, frzS, frzE, appS, parS, h, decide_true]
    rfl
  · have e : asc 1 (S.getD 0 0) 0 x = 0 := by unfold asc; rw [if_neg (by omega)]
    rw [e]
    simp only [run_r, seq_r, cont_nx, cont_rt, cont_bk, cont_ct, if_r, sel_t, sel_f, ife_r, sele_t, sele_f, and_r, or_r, sela_t, sela_f, selo_t, selo_f, out_rt, out_rtl, out_rtO, out_nx, setD, setO, retS, retO, retV, retN, nilS, fgt, isB, truB, truD, notB, orV, andV, notV, b1, b2, bA, aC, aN, vr, vw, cst, nth, sset, bnd_r, opt_s, cond_true, cond_false, eTup_0, eTup_1, eTup_2, eTup_3, eLst_0, eLst_1, eLst_2, eLst_3, callE, mkE, List.replicate_succ, List.replicate_zero, List.length_cons, List.length_nil, List.length_map, if_true, if_false, Nat.reduceAdd, Nat.reduceSub, Bool.false_and, Bool.and_true, Bool.true_and, Bool.and_false, Bool.not_true, Bool.not_false, Bool.true_or, Bool.or_true, Bool.false_or, Bool.or_false, reduceIte, Bool.false_eq_true, dGt, dLt, dGe, dLe, dCmp, dSub, dNeg, aLen, seqD_tup, seqD_lst, seqD_T, Option.map_some, dIsN, dNotN, isNonD_non, isNonD_bl, isNonD_int, isNonD_str, isNonD_tup, isNonD_lst, isNonD_T, forL_nil, forL_cons, loop_nx, loop_ct, loop_bk, loop_rt, frzS, frzE, appS, parS, h, decide_false]
    rfl
theorem first_loop {S : List Nat} (hn : 1 ≤ S.length) (hs : ∀ s ∈ S, s ≤ 100) :
    forS (itR1 (b2 dIxA (vw 0) (cst (.int 0)))) (gN 2) b_rise_numbers_1 [.d (T (sI S)), .o (dR []), .un, .un, .un, .un, .un, .un, .un, .un, .un] = ret (.nx [.d (T (sI S)), .o (dR (r0 S)), .un, .un, .un, .un, .un, .un, .un, .un, .un]) := by
  have h0 : S.getD 0 0 ≤ 100 := by
    rw [List.getD_eq_getElem?_getD, List.getElem?_eq_getElem (by omega)]
    exact hs _ (List.getElem_mem _)
  have loop := forF (it := itR1 (b2 dIxA (vw 0) (cst (.int 0)))) (b := gN 2) (body := b_rise_numbers_1) (fun l : List ((Nat × Nat) × Int) => [.d (T (sI S)), .o (dR l), .un, .un, .un, .un, .un, .un, .un, .un, .un])
    (fun l x => LbD.ad l (x, asc 1 (S.getD 0 0) 0 x) 1) (Bx (BR (S.getD 0 0) 1)) (s0 := []) (List.range (S.getD 0 0)) (fun x : Nat => D.int (x : Int))
    (by
      have := sI_ix (S := S) (k := 0) (by omega)
      have this : dIxA (T (sI S)) (.int 0) = some (.int ((S.getD 0 0 : Nat) : Int)) := this
      simp only [itR1, run_r, seq_r, cont_nx, cont_rt, cont_bk, cont_ct, if_r, sel_t, sel_f, ife_r, sele_t, sele_f, and_r, or_r, sela_t, sela_f, selo_t, selo_f, out_rt, out_rtl, out_rtO, out_nx, setD, setO, retS, retO, retV, retN, nilS, fgt, isB, truB, truD, notB, orV, andV, notV, b1, b2, bA, aC, aN, vr, vw, cst, nth, sset, bnd_r, opt_s, cond_true, cond_false, eTup_0, eTup_1, eTup_2, eTup_3, eLst_0, eLst_1, eLst_2, eLst_3, callE, mkE, List.replicate_succ, List.replicate_zero, List.length_cons, List.length_nil, List.length_map, if_true, if_false, Nat.reduceAdd, Nat.reduceSub, Bool.false_and, Bool.and_true, Bool.true_and, Bool.and_false, Bool.not_true, Bool.not_false, Bool.true_or, Bool.or_true, Bool.false_or, Bool.or_false, reduceIte, Bool.false_eq_true, dGt, dLt, dGe, dLe, dCmp, dSub, dNeg, aLen, seqD_tup, seqD_lst, seqD_T, Option.map_some, dIsN, dNotN, isNonD_non, isNonD_bl, isNonD_int, isNonD_str, isNonD_tup, isNonD_lst, isNonD_T, forL_nil, forL_cons, loop_nx, loop_ct, loop_bk, loop_rt, frzS, frzE, appS, parS, this]
      rw [rg1_nat (by omega), opt_s])
    .nil
    (fun x hx l hl => by
      refine ⟨[.d (T (sI S)), .o (dR l), .d (.int (x : Int)), .un, .un, .un, .un, .un, .un, .un, .un], rfl, ?_, hl.ad ⟨List.mem_range.mp hx, asc_le _ _ _ _⟩ 1⟩
      have hlen := lenR hl (by omega) (by omega)
      have g3 := get3_e (ek := eN) (ev := D.int) keyN (x, asc 1 (S.getD 0 0) 0 x) (0 : Int) l
      have p3 := putO_e (ek := eN) (ev := D.int) keyN (x, asc 1 (S.getD 0 0) 0 x) ((lk l (x, asc 1 (S.getD 0 0) 0 x)).getD 0 + 1) (l := l) hlen
      unfold b_rise_numbers_1
      rw [seq_r, key1, bnd_r, cont_nx]
      simp only [run_r, seq_r, cont_nx, cont_rt, cont_bk, cont_ct, if_r, sel_t, sel_f, ife_r, sele_t, sele_f, and_r, or_r, sela_t, sela_f, selo_t, selo_f, out_rt, out_rtl, out_rtO, out_nx, setD, setO, retS, retO, retV, retN, nilS, fgt, isB, truB, truD, notB, orV, andV, notV, b1, b2, bA, aC, aN, vr, vw, cst, nth, sset, bnd_r, opt_s, cond_true, cond_false, eTup_0, eTup_1, eTup_2, eTup_3, eLst_0, eLst_1, eLst_2, eLst_3, callE, mkE, List.replicate_succ, List.replicate_zero, List.length_cons, List.length_nil, List.length_map, if_true, if_false, Nat.reduceAdd, Nat.reduceSub, Bool.false_and, Bool.and_true, Bool.true_and, Bool.and_false, Bool.not_true, Bool.not_false, Bool.true_or, Bool.or_true, Bool.false_or, Bool.or_false, reduceIte, Bool.false_eq_true, dGt, dLt, dGe, dLe, dCmp, dSub, dNeg, aLen, seqD_tup, seqD_lst, seqD_T, Option.map_some, dIsN, dNotN, isNonD_non, isNonD_bl, isNonD_int, isNonD_str, isNonD_tup, isNonD_lst, isNonD_T, forL_nil, forL_cons, loop_nx, loop_ct, loop_bk, loop_rt, frzS, frzE, appS, parS, setIA, getE, g3, dAdd_ii, p3, LbD.ad])
  exact loop.1
theorem inner_loop {S : List Nat} {d l : List ((Nat × Nat) × Int)} {j last many : Nat} {ways : Int} (hj : j + 1 < S.length) (hn : S.length ≤ 100) (hs : ∀ s ∈ S, s ≤ 100) (hl : Bx (BR (S.getD (j + 1) 0) (j + 1 + 1)) l) (hlast : last ≤ 1000) (hm : many ≤ j + 1) :
    b_rise_numbers_3 [.d (T (sI S)), .d (dR d), .un, .un, .d (.int (1 + (j : Int))), .o (dR l), .d (.int (last : Int)), .un, .un, .d (.int (many : Int)), .d (.int ways)] = ret (.nx [.d (T (sI S)), .d (dR d), .un, .un, .d (.int (1 + (j : Int))), .o (dR ((List.range (S.getD (j + 1) 0)).foldl (fun l x => LbD.ad l (x, many + asc (S.getD j 0) (S.getD (j + 1) 0) last x) ways) l)), .un, .un, .un, .un, .un]) ∧ Bx (BR (S.getD (j + 1) 0) (j + 1 + 1)) ((List.range (S.getD (j + 1) 0)).foldl (fun l x => LbD.ad l (x, many + asc (S.getD j 0) (S.getD (j + 1) 0) last x) ways) l) := by
  have h0 : ∀ k, k < S.length → S.getD k 0 ≤ 100 := fun k hk => by
    rw [List.getD_eq_getElem?_getD, List.getElem?_eq_getElem hk]
    exact hs _ (List.getElem_mem _)
  have hx1 := sI_ix (S := S) (k := j + 1) hj
  have hx0 := sI_ix (S := S) (k := j) (by omega)
  rw [show ((j + 1 : Nat) : Int) = 1 + (j : Int) by omega] at hx1
  rw [show (j : Int) = 1 + (j : Int) - 1 by omega] at hx0
  have b1' := h0 (j + 1) hj
  have b0' := h0 j (by omega)
  generalize S.getD (j + 1) 0 = s' at *
  generalize S.getD j 0 = s at *
  have loop := forF (it := itR1 (b2 dIxA (vw 0) (vw 4))) (b := gN 2) (body := b_rise_numbers_2) (fun l : List ((Nat × Nat) × Int) => [.d (T (sI S)), .d (dR d), .un, .un, .d (.int (1 + (j : Int))), .o (dR l), .d (.int (last : Int)), .un, .un, .d (.int (many : Int)), .d (.int ways)])
    (fun l x => LbD.ad l (x, many + asc s s' last x) ways) (Bx (BR s' (j + 1 + 1))) (s0 := l) (List.range s') (fun x : Nat => D.int (x : Int))
    (by
      simp only [itR1, run_r, seq_r, cont_nx, cont_rt, cont_bk, cont_ct, if_r, sel_t, sel_f, ife_r, sele_t, sele_f, and_r, or_r, sela_t, sela_f, selo_t, selo_f, out_rt, out_rtl, out_rtO, out_nx, setD, setO, retS, retO, retV, retN, nilS, fgt, isB, truB, truD, notB, orV, andV, notV, b1, b2, bA, aC, aN, vr, vw, cst, nth, sset, bnd_r, opt_s, cond_true, cond_false, eTup_0, eTup_1, eTup_2, eTup_3, eLst_0, eLst_1, eLst_2, eLst_3, callE, mkE, List.replicate_succ, List.replicate_zero, List.length_cons, List.length_nil, List.length_map, if_true, if_false, Nat.reduceAdd, Nat.reduceSub, Bool.false_and, Bool.and_true, Bool.true_and, Bool.and_false, Bool.not_true, Bool.not_false, Bool.true_or, Bool.or_true, Bool.false_or, Bool.or_false, reduceIte, Bool.false_eq_true, dGt, dLt, dGe, dLe, dCmp, dSub, dNeg, aLen, seqD_tup, seqD_lst, seqD_T, Option.map_some, dIsN, dNotN, isNonD_non, isNonD_bl, isNonD_int, isNonD_str, isNonD_tup, isNonD_lst, isNonD_T, forL_nil, forL_cons, loop_nx, loop_ct, loop_bk, loop_rt, frzS, frzE, appS, parS, hx1]
      rw [rg1_nat (by omega), opt_s])
    hl
    (fun x hx l hl => by
      have hx' := List.mem_range.mp hx
      have ha := asc_le s s' last x
      refine ⟨[.d (T (sI S)), .d (dR d), .d (.int (x : Int)), .un, .d (.int (1 + (j : Int))), .o (dR l), .d (.int (last : Int)), .un, .un, .d (.int (many : Int)), .d (.int ways)], rfl, ?_, hl.ad ⟨hx', by show many + _ ≤ _; omega⟩ ways⟩
      have hlen := lenR hl (by omega) (by omega)
      have g3 := get3_e (ek := eN) (ev := D.int) keyN (x, many + asc s s' last x) (0 : Int) l
      have p3 := putO_e (ek := eN) (ev := D.int) keyN (x, many + asc s s' last x) ((lk l (x, many + asc s s' last x)).getD 0 + ways) (l := l) hlen
      have m1 : dMul (.int (last : Int)) (.int (s' : Int)) = some (.int ((last : Int) * (s' : Int))) := dMul_ii (by omega) (by omega)
      have m2 : dMul (.int (x : Int)) (.int (s : Int)) = some (.int ((x : Int) * (s : Int))) := dMul_ii (by omega) (by omega)
      have st1 : setD 3 (eTup (aC (vr 2) (aC (b2 dAdd (vw 9) (ifE (isB (b2 dLt (b2 dMul (vw 6) (b2 dIxA (vw 0) (vw 4))) (b2 dMul (vw 2) (b2 dIxA (vw 0) (b2 dSub (vw 4) (cst (.int 1))))))) (cst (.int 1)) (cst (.int 0)))) aN))) [.d (T (sI S)), .d (dR d), .d (.int (x : Int)), .un, .d (.int (1 + (j : Int))), .o (dR l), .d (.int (last : Int)), .un, .un, .d (.int (many : Int)), .d (.int ways)] = ret (.nx [.d (T (sI S)), .d (dR d), .d (.int (x : Int)), .d (eN (x, many + asc s s' last x)), .d (.int (1 + (j : Int))), .o (dR l), .d (.int (last : Int)), .un, .un, .d (.int (many : Int)), .d (.int ways)]) := by
        have hc : ((last : Int) * (s' : Int) < (x : Int) * (s : Int)) ↔ last * s' < x * s := by
          rw [← Int.natCast_mul, ← Int.natCast_mul]; omega
        by_cases h : (last : Int) * (s' : Int) < (x : Int) * (s : Int)
        · have e : asc s s' last x = 1 := by unfold asc; rw [if_pos (hc.mp h)]
          rw [e]
          simp only [run_r, seq_r, cont_nx, cont_rt, cont_bk, cont_ct, if_r, sel_t, sel_f, ife_r, sele_t, sele_f, and_r, or_r, sela_t, sela_f, selo_t, selo_f, out_rt, out_rtl, out_rtO, out_nx, setD, setO, retS, retO, retV, retN, nilS, fgt, isB, truB, truD, notB, orV, andV, notV, b1, b2, bA, aC, aN, vr, vw, cst, nth, sset, bnd_r, opt_s, cond_true, cond_false, eTup_0, eTup_1, eTup_2, eTup_3, eLst_0, eLst_1, eLst_2, eLst_3, callE, mkE, List.replicate_succ, List.replicate_zero, List.length_cons, List.length_nil, List.length_map, if_true, if_false, Nat.reduceAdd, Nat.reduceSub, Bool.false_and, Bool.and_true, Bool.true_and, Bool.and_false, Bool.not_true, Bool.not_false, Bool.true_or, Bool.or_true, Bool.false_or, Bool.or_false, reduceIte, Bool.false_eq_true, dGt, dLt, dGe, dLe, dCmp, dSub, dNeg, aLen, seqD_tup, seqD_lst, seqD_T, Option.map_some, dIsN, dNotN, isNonD_non, isNonD_bl, isNonD_int, isNonD_str, isNonD_tup, isNonD_lst, isNonD_T, forL_nil, forL_cons, loop_nx, loop_ct, loop_bk, loop_rt, frzS, frzE, appS, parS, hx1, hx0, m1, m2, h, decide_true, dAdd_ii]
          rfl
        · have e : asc s s' last x = 0 := by unfold asc; rw [if_neg (fun z => h (hc.mpr z))]
          rw [e]
          simp only [run_r, seq_r, cont_nx, cont_rt, cont_bk, cont_ct, if_r, sel_t, sel_f, ife_r, sele_t, sele_f, and_r, or_r, sela_t, sela_f, selo_t, selo_f, out_rt, out_rtl, out_rtO, out_nx, setD, setO, retS, retO, retV, retN, nilS, fgt, isB, truB, truD, notB, orV, andV, notV, b1, b2, bA, aC, aN, vr, vw, cst, nth, sset, bnd_r, opt_s, cond_true, cond_false, eTup_0, eTup_1, eTup_2, eTup_3, eLst_0, eLst_1, eLst_2, eLst_3, callE, mkE, List.replicate_succ, List.replicate_zero, List.length_cons, List.length_nil, List.length_map, if_true, if_false, Nat.reduceAdd, Nat.reduceSub, Bool.false_and, Bool.and_true, Bool.true_and, Bool.and_false, Bool.not_true, Bool.not_false, Bool.true_or, Bool.or_true, Bool.false_or, Bool.or_false, reduceIte, Bool.false_eq_true, dGt, dLt, dGe, dLe, dCmp, dSub, dNeg, aLen, seqD_tup, seqD_lst, seqD_T, Option.map_some, dIsN, dNotN, isNonD_non, isNonD_bl, isNonD_int, isNonD_str, isNonD_tup, isNonD_lst, isNonD_T, forL_nil, forL_cons, loop_nx, loop_ct, loop_bk, loop_rt, frzS, frzE, appS, parS, hx1, hx0, m1, m2, h, decide_false, dAdd_ii]
          rfl
      unfold b_rise_numbers_2
      rw [seq_r, st1, bnd_r, cont_nx]
      simp only [run_r, seq_r, cont_nx, cont_rt, cont_bk, cont_ct, if_r, sel_t, sel_f, ife_r, sele_t, sele_f, and_r, or_r, sela_t, sela_f, selo_t, selo_f, out_rt, out_rtl, out_rtO, out_nx, setD, setO, retS, retO, retV, retN, nilS, fgt, isB, truB, truD, notB, orV, andV, notV, b1, b2, bA, aC, aN, vr, vw, cst, nth, sset, bnd_r, opt_s, cond_true, cond_false, eTup_0, eTup_1, eTup_2, eTup_3, eLst_0, eLst_1, eLst_2, eLst_3, callE, mkE, List.replicate_succ, List.replicate_zero, List.length_cons, List.length_nil, List.length_map, if_true, if_false, Nat.reduceAdd, Nat.reduceSub, Bool.false_and, Bool.and_true, Bool.true_and, Bool.and_false, Bool.not_true, Bool.not_false, Bool.true_or, Bool.or_true, Bool.false_or, Bool.or_false, reduceIte, Bool.false_eq_true, dGt, dLt, dGe, dLe, dCmp, dSub, dNeg, aLen, seqD_tup, seqD_lst, seqD_T, Option.map_some, dIsN, dNotN, isNonD_non, isNonD_bl, isNonD_int, isNonD_str, isNonD_tup, isNonD_lst, isNonD_T, forL_nil, forL_cons, loop_nx, loop_ct, loop_bk, loop_rt, frzS, frzE, appS, parS, setIA, getE, g3, dAdd_ii, p3, LbD.ad])
  refine ⟨?_, loop.2⟩
  unfold b_rise_numbers_3
  simp only [run_r, seq_r, cont_nx, cont_rt, cont_bk, cont_ct, if_r, sel_t, sel_f, ife_r, sele_t, sele_f, and_r, or_r, sela_t, sela_f, selo_t, selo_f, out_rt, out_rtl, out_rtO, out_nx, setD, setO, retS, retO, retV, retN, nilS, fgt, isB, truB, truD, notB, orV, andV, notV, b1, b2, bA, aC, aN, vr, vw, cst, nth, sset, bnd_r, opt_s, cond_true, cond_false, eTup_0, eTup_1, eTup_2, eTup_3, eLst_0, eLst_1, eLst_2, eLst_3, callE, mkE, List.replicate_succ, List.replicate_zero, List.length_cons, List.length_nil, List.length_map, if_true, if_false, Nat.reduceAdd, Nat.reduceSub, Bool.false_and, Bool.and_true, Bool.true_and, Bool.and_false, Bool.not_true, Bool.not_false, Bool.true_or, Bool.or_true, Bool.false_or, Bool.or_false, reduceIte, Bool.false_eq_true, dGt, dLt, dGe, dLe, dCmp, dSub, dNeg, aLen, seqD_tup, seqD_lst, seqD_T, Option.map_some, dIsN, dNotN, isNonD_non, isNonD_bl, isNonD_int, isNonD_str, isNonD_tup, isNonD_lst, isNonD_T, forL_nil, forL_cons, loop_nx, loop_ct, loop_bk, loop_rt, frzS, frzE, appS, parS, loop.1]
end K59
end
section
set_option maxHeartbeats 1000000
namespace K59
open PySem PySem.Spec PyProof.Rows L2 FL Lb LbD P59
/-! how many index rows have m rises -/
def dl (m : Nat) : Nat → Int := fun j => if j = m then 1 else 0
def tl (S : List Nat) (m : Nat) : Int := A (dl m) 1 S 0 0
theorem sm_mulR (n : Nat) (f : Nat → Int) (c : Int) : sm n f * c = sm n fun i => f i * c := by
  induction n with
  | zero => rw [sm_zero, sm_zero, Int.zero_mul]
  | succ n ih => rw [sm_succ, sm_succ, Int.add_mul, ih]
theorem sm_delta (c : Nat → Int) (m : Nat) : ∀ N, sm N (fun k => dl k m * c k) = if m < N then c m else 0
  | 0 => by rw [sm_zero, if_neg (by omega)]
  | N + 1 => by
    rw [sm_succ, sm_delta c m N]
    unfold dl
    by_cases h : m = N
    · subst h; rw [if_neg (by omega), if_pos rfl, if_pos (by omega)]; omega
    · rw [if_neg h]
      by_cases h2 : m < N
      · rw [if_pos h2, if_pos (by omega)]; omega
      · rw [if_neg h2, if_neg (by omega)]; omega
theorem tl_cut (N : Nat) (c : Nat → Int) : ∀ (rest : List Nat) (s r m : Nat), sm N (fun k => A (dl k) s rest r m * c k) = A (fun j => if j < N then c j else 0) s rest r m
  | [], s, r, m => sm_delta c m N
  | s' :: rest, s, r, m => by
    rw [A, ← sm_congr (f := fun r' => sm N fun k => A (dl k) s' rest r' (m + asc s s' r r') * c k) fun r' _ => tl_cut N c rest s' r' _, ← sm_swap]
    refine sm_congr fun k _ => ?_
    rw [A, sm_mulR]
theorem A_le {N : Nat} (c : Nat → Int) : ∀ (rest : List Nat) (s r m : Nat), m + rest.length < N → A (fun j => if j < N then c j else 0) s rest r m = A c s rest r m
  | [], s, r, m, h => if_pos (by simpa using h)
  | s' :: rest, s, r, m, h => by
    rw [A, A]
    rw [List.length_cons] at h
    refine sm_congr fun r' _ => ?_
    have := asc_le s s' r r'
    exact A_le c rest s' r' _ (by omega)
theorem tl_sum (S : List Nat) (c : Nat → Int) : sm (S.length + 1) (fun k => tl S k * c k) = A c 1 S 0 0 := by
  rw [← A_le (N := S.length + 1) c S 1 0 0 (by omega)]
  exact tl_cut (S.length + 1) c S 1 0 0
theorem sm_mono {n : Nat} {f g : Nat → Int} (h : ∀ i, f i ≤ g i) : sm n f ≤ sm n g := by
  induction n with
  | zero => exact Int.le_refl _
  | succ n ih => rw [sm_succ, sm_succ]; have := h n; omega
theorem A_mono {f g : Nat → Int} (h : ∀ i, f i ≤ g i) : ∀ (rest : List Nat) (s r m : Nat), A f s rest r m ≤ A g s rest r m
  | [], s, r, m => h m
  | s' :: rest, s, r, m => by
    rw [A, A]
    exact sm_mono fun r' => A_mono h rest s' r' _
theorem tl_bd (S : List Nat) (m : Nat) : 0 ≤ tl S m ∧ tl S m ≤ ((S.foldl (· * ·) 1 : Nat) : Int) := by
  have h1 := A_mono (f := fun _ => 0) (g := dl m) (fun i => by unfold dl; split <;> omega) S 1 0 0
  have h2 := A_mono (f := dl m) (g := fun _ => 1) (fun i => by unfold dl; split <;> omega) S 1 0 0
  rw [A_nul] at h1
  rw [A_one] at h2
  exact ⟨h1, h2⟩
def items (l : List ((Nat × Nat) × Int)) : List D := l.map fun p => D.tup [eN p.1, .int p.2]
theorem step_eq {S : List Nat} {j : Nat} (hj : j + 1 < S.length) (hn : S.length ≤ 100) (hs : ∀ s ∈ S, s ≤ 100) :
    b_rise_numbers_4 [.d (T (sI S)), .o (dR (rs S j)), .un, .un, .d (.int (1 + (j : Int))), .un, .un, .un, .un, .un, .un] = ret (.nx [.d (T (sI S)), .o (dR (rs S (j + 1))), .un, .un, .un, .un, .un, .un, .un, .un, .un]) := by
  have hB := (rs_facts S j (by omega)).1
  have h0 : S.getD j 0 ≤ 100 := by
    rw [List.getD_eq_getElem?_getD, List.getElem?_eq_getElem (by omega)]
    exact hs _ (List.getElem_mem _)
  have loop := forF (it := itI (vr 1)) (b := gT (gsC (gT (gsC (gN 6) (gsC (gN 9) gsN))) (gsC (gN 10) gsN))) (body := b_rise_numbers_3)
    (fun l : List ((Nat × Nat) × Int) => [.d (T (sI S)), .d (dR (rs S j)), .un, .un, .d (.int (1 + (j : Int))), .o (dR l), .un, .un, .un, .un, .un])
    (fun acc (p : (Nat × Nat) × Int) => (List.range (S.getD (j + 1) 0)).foldl (fun l x => LbD.ad l (x, p.1.2 + asc (S.getD j 0) (S.getD (j + 1) 0) p.1.1 x) p.2) acc) (Bx (BR (S.getD (j + 1) 0) (j + 1 + 1))) (s0 := []) (rs S j) (fun p => D.tup [eN p.1, .int p.2])
    (by simp only [itI, run_r, seq_r, cont_nx, cont_rt, cont_bk, cont_ct, if_r, sel_t, sel_f, ife_r, sele_t, sele_f, and_r, or_r, sela_t, sela_f, selo_t, selo_f, out_rt, out_rtl, out_rtO, out_nx, setD, setO, retS, retO, retV, retN, nilS, fgt, isB, truB, truD, notB, orV, andV, notV, b1, b2, bA, aC, aN, vr, vw, cst, nth, sset, bnd_r, opt_s, cond_true, cond_false, eTup_0, eTup_1, eTup_2, eTup_3, eLst_0, eLst_1, eLst_2, eLst_3, callE, mkE, List.replicate_succ, List.replicate_zero, List.length_cons, List.length_nil, List.length_map, if_true, if_false, Nat.reduceAdd, Nat.reduceSub, Bool.false_and, Bool.and_true, Bool.true_and, Bool.and_false, Bool.not_true, Bool.not_false, Bool.true_or, Bool.or_true, Bool.false_or, Bool.or_false, reduceIte, Bool.false_eq_true, dGt, dLt, dGe, dLe, dCmp, dSub, dNeg, aLen, seqD_tup, seqD_lst, seqD_T, Option.map_some, dIsN, dNotN, isNonD_non, isNonD_bl, isNonD_int, isNonD_str, isNonD_tup, isNonD_lst, isNonD_T, forL_nil, forL_cons, loop_nx, loop_ct, loop_bk, loop_rt, frzS, frzE, appS, parS, items_e])
    .nil
    (fun p hp l hl => by
      obtain ⟨⟨last, many⟩, ways⟩ := p
      have hb := hB.2 (last, many) (List.mem_map_of_mem hp)
      have hb1 : last < S.getD j 0 := hb.1
      have hb2 : many ≤ j + 1 := hb.2
      obtain ⟨i1, i2⟩ := inner_loop (d := rs S j) (l := l) (last := last) (many := many) (ways := ways) hj hn hs hl (by omega) hb2
      exact ⟨_, rfl, i1, i2⟩)
  have loop := loop.1
  rw [show (rs S j).foldl (fun acc (p : (Nat × Nat) × Int) => (List.range (S.getD (j + 1) 0)).foldl (fun l x => LbD.ad l (x, p.1.2 + asc (S.getD j 0) (S.getD (j + 1) 0) p.1.1 x) p.2) acc) [] = rs S (j + 1) from rfl] at loop
  have hd0 : D.dic true [] = dR [] := rfl
  unfold b_rise_numbers_4
  simp only [run_r, seq_r, cont_nx, cont_rt, cont_bk, cont_ct, if_r, sel_t, sel_f, ife_r, sele_t, sele_f, and_r, or_r, sela_t, sela_f, selo_t, selo_f, out_rt, out_rtl, out_rtO, out_nx, setD, setO, retS, retO, retV, retN, nilS, fgt, isB, truB, truD, notB, orV, andV, notV, b1, b2, bA, aC, aN, vr, vw, cst, nth, sset, bnd_r, opt_s, cond_true, cond_false, eTup_0, eTup_1, eTup_2, eTup_3, eLst_0, eLst_1, eLst_2, eLst_3, callE, mkE, List.replicate_succ, List.replicate_zero, List.length_cons, List.length_nil, List.length_map, if_true, if_false, Nat.reduceAdd, Nat.reduceSub, Bool.false_and, Bool.and_true, Bool.true_and, Bool.and_false, Bool.not_true, Bool.not_false, Bool.true_or, Bool.or_true, Bool.false_or, Bool.or_false, reduceIte, Bool.false_eq_true, dGt, dLt, dGe, dLe, dCmp, dSub, dNeg, aLen, seqD_tup, seqD_lst, seqD_T, Option.map_some, dIsN, dNotN, isNonD_non, isNonD_bl, isNonD_int, isNonD_str, isNonD_tup, isNonD_lst, isNonD_T, forL_nil, forL_cons, loop_nx, loop_ct, loop_bk, loop_rt, frzS, frzE, appS, parS, hd0, loop, movS]
theorem told_fold (m : Nat) : ∀ (l : List ((Nat × Nat) × Int)) (f : Nat → Int), (l.foldl (fun (f : Nat → Int) (p : (Nat × Nat) × Int) => fun i => if i = p.1.2 then f p.1.2 + p.2 else f i) f) m = f m + sw (fun p => dl m p.2) l
  | [], f => by show f m = f m + 0; omega
  | p :: l, f => by
    rw [List.foldl_cons, told_fold m l, sw_cons]
    unfold dl
    by_cases h : m = p.1.2
    · rw [if_pos h, if_pos h.symm, h]; omega
    · rw [if_neg h, if_neg (fun z => h z.symm)]; omega
theorem last_loop {S : List Nat} {l : List ((Nat × Nat) × Int)} {s k : Nat} (hl : Bx (BR s k) l) (hk : k ≤ S.length) (hn : S.length ≤ 100) :
    forS (itI (vr 1)) (gT (gsC (gT (gsC (gN 8) (gsC (gN 9) gsN))) (gsC (gN 10) gsN))) b_rise_numbers_5 [.d (T (sI S)), .d (dR l), .un, .un, .un, .un, .un, .o (.lst (tab (S.length + 1) fun _ => 0)), .un, .un, .un] = ret (.nx [.d (T (sI S)), .d (dR l), .un, .un, .un, .un, .un, .o (.lst (tab (S.length + 1) fun m => sw (fun p => dl m p.2) l)), .un, .un, .un]) := by
  have loop := forF (it := itI (vr 1)) (b := gT (gsC (gT (gsC (gN 8) (gsC (gN 9) gsN))) (gsC (gN 10) gsN))) (body := b_rise_numbers_5)
    (fun f : Nat → Int => [.d (T (sI S)), .d (dR l), .un, .un, .un, .un, .un, .o (.lst (tab (S.length + 1) f)), .un, .un, .un])
    (fun (f : Nat → Int) (p : (Nat × Nat) × Int) => fun i => if i = p.1.2 then f p.1.2 + p.2 else f i) (fun _ => True) (s0 := fun _ => 0) l (fun p => D.tup [eN p.1, .int p.2])
    (by simp only [itI, run_r, seq_r, cont_nx, cont_rt, cont_bk, cont_ct, if_r, sel_t, sel_f, ife_r, sele_t, sele_f, and_r, or_r, sela_t, sela_f, selo_t, selo_f, out_rt, out_rtl, out_rtO, out_nx, setD, setO, retS, retO, retV, retN, nilS, fgt, isB, truB, truD, notB, orV, andV, notV, b1, b2, bA, aC, aN, vr, vw, cst, nth, sset, bnd_r, opt_s, cond_true, cond_false, eTup_0, eTup_1, eTup_2, eTup_3, eLst_0, eLst_1, eLst_2, eLst_3, callE, mkE, List.replicate_succ, List.replicate_zero, List.length_cons, List.length_nil, List.length_map, if_true, if_false, Nat.reduceAdd, Nat.reduceSub, Bool.false_and, Bool.and_true, Bool.true_and, Bool.and_false, Bool.not_true, Bool.not_false, Bool.true_or, Bool.or_true, Bool.false_or, Bool.or_false, reduceIte, Bool.false_eq_true, dGt, dLt, dGe, dLe, dCmp, dSub, dNeg, aLen, seqD_tup, seqD_lst, seqD_T, Option.map_some, dIsN, dNotN, isNonD_non, isNonD_bl, isNonD_int, isNonD_str, isNonD_tup, isNonD_lst, isNonD_T, forL_nil, forL_cons, loop_nx, loop_ct, loop_bk, loop_rt, frzS, frzE, appS, parS, items_e])
    trivial
    (fun p hp f _ => by
      obtain ⟨⟨last, many⟩, ways⟩ := p
      have hb := hl.2 (last, many) (List.mem_map_of_mem hp)
      have hb2 : many ≤ k := hb.2
      refine ⟨[.d (T (sI S)), .d (dR l), .un, .un, .un, .un, .un, .o (.lst (tab (S.length + 1) f)), .d (.int (last : Int)), .d (.int (many : Int)), .d (.int ways)], rfl, ?_, trivial⟩
      have hg := tab_getIO (n := S.length + 1) (f := f) (t := many) (by omega)
      have hs := tab_setIO (n := S.length + 1) (f := f) (t := many) (v := f many + ways) (by omega)
      unfold b_rise_numbers_5
      simp only [run_r, seq_r, cont_nx, cont_rt, cont_bk, cont_ct, if_r, sel_t, sel_f, ife_r, sele_t, sele_f, and_r, or_r, sela_t, sela_f, selo_t, selo_f, out_rt, out_rtl, out_rtO, out_nx, setD, setO, retS, retO, retV, retN, nilS, fgt, isB, truB, truD, notB, orV, andV, notV, b1, b2, bA, aC, aN, vr, vw, cst, nth, sset, bnd_r, opt_s, cond_true, cond_false, eTup_0, eTup_1, eTup_2, eTup_3, eLst_0, eLst_1, eLst_2, eLst_3, callE, mkE, List.replicate_succ, List.replicate_zero, List.length_cons, List.length_nil, List.length_map, if_true, if_false, Nat.reduceAdd, Nat.reduceSub, Bool.false_and, Bool.and_true, Bool.true_and, Bool.and_false, Bool.not_true, Bool.not_false, Bool.true_or, Bool.or_true, Bool.false_or, Bool.or_false, reduceIte, Bool.false_eq_true, dGt, dLt, dGe, dLe, dCmp, dSub, dNeg, aLen, seqD_tup, seqD_lst, seqD_T, Option.map_some, dIsN, dNotN, isNonD_non, isNonD_bl, isNonD_int, isNonD_str, isNonD_tup, isNonD_lst, isNonD_T, forL_nil, forL_cons, loop_nx, loop_ct, loop_bk, loop_rt, frzS, frzE, appS, parS, augIS, hg, dAdd0_ii, hs])
  have loop := loop.1
  rw [show l.foldl (fun (f : Nat → Int) (p : (Nat × Nat) × Int) => fun i => if i = p.1.2 then f p.1.2 + p.2 else f i) (fun _ => 0) = fun m => sw (fun p => dl m p.2) l from funext fun m => by rw [told_fold]; omega] at loop
  exact loop
theorem rise_eq {S : List Nat} (h1 : 1 ≤ S.length) (hn : S.length ≤ 100) (hs : ∀ s ∈ S, s ≤ 100) : m_rise_numbers [T (sI S)] = ret (.lst (tab (S.length + 1) (tl S))) := by
  have hlen : aLenB [T (sI S)] = some (.int (S.length : Nat)) := by
    have := aLenB_t ((sI S).map D.int)
    rw [List.length_map, sI_len] at this
    exact this
  have lp := loopN (a := 1) (m := S.length - 1) (it := itR2 (cst (.int 1)) (bA aLenB (aC (vw 0) aN))) (b := gN 4) (body := b_rise_numbers_4) (fun j => [.d (T (sI S)), .o (dR (rs S j)), .un, .un, .un, .un, .un, .un, .un, .un, .un])
    (by
      simp only [itR2, run_r, seq_r, cont_nx, cont_rt, cont_bk, cont_ct, if_r, sel_t, sel_f, ife_r, sele_t, sele_f, and_r, or_r, sela_t, sela_f, selo_t, selo_f, out_rt, out_rtl, out_rtO, out_nx, setD, setO, retS, retO, retV, retN, nilS, fgt, isB, truB, truD, notB, orV, andV, notV, b1, b2, bA, aC, aN, vr, vw, cst, nth, sset, bnd_r, opt_s, cond_true, cond_false, eTup_0, eTup_1, eTup_2, eTup_3, eLst_0, eLst_1, eLst_2, eLst_3, callE, mkE, List.replicate_succ, List.replicate_zero, List.length_cons, List.length_nil, List.length_map, if_true, if_false, Nat.reduceAdd, Nat.reduceSub, Bool.false_and, Bool.and_true, Bool.true_and, Bool.and_false, Bool.not_true, Bool.not_false, Bool.true_or, Bool.or_true, Bool.false_or, Bool.or_false, reduceIte, Bool.false_eq_true, dGt, dLt, dGe, dLe, dCmp, dSub, dNeg, aLen, seqD_tup, seqD_lst, seqD_T, Option.map_some, dIsN, dNotN, isNonD_non, isNonD_bl, isNonD_int, isNonD_str, isNonD_tup, isNonD_lst, isNonD_T, forL_nil, forL_cons, loop_nx, loop_ct, loop_bk, loop_rt, frzS, frzE, appS, parS, hlen]
      rw [rg2_rng (by omega) (by omega) (by omega) (by omega), show ((S.length : Int) - 1).toNat = S.length - 1 by omega, opt_s])
    (fun j hj => ⟨_, rfl, step_eq (by omega) hn hs⟩)
  obtain ⟨f1, f2⟩ := rs_facts S (S.length - 1) (by omega)
  have ll := last_loop (S := S) f1 (by omega) hn
  have htl : (fun m => sw (fun p : Nat × Nat => dl m p.2) (rs S (S.length - 1))) = tl S := funext fun m => by
    have := f2 (dl m)
    rw [show S.drop (S.length - 1 + 1) = [] by rw [List.drop_eq_nil_iff]; omega] at this
    exact this
  rw [htl] at ll
  have hrep := repR0 (n := S.length + 1) (by omega)
  rw [tab_rep, show ((S.length + 1 : Nat) : Int) = (S.length : Int) + 1 by omega] at hrep
  have hd0 : D.dic true [] = dR [] := rfl
  have lf := first_loop (S := S) h1 hs
  rw [show rs S 0 = r0 S from rfl] at lp
  unfold m_rise_numbers
  simp only [run_r, seq_r, cont_nx, cont_rt, cont_bk, cont_ct, if_r, sel_t, sel_f, ife_r, sele_t, sele_f, and_r, or_r, sela_t, sela_f, selo_t, selo_f, out_rt, out_rtl, out_rtO, out_nx, setD, setO, retS, retO, retV, retN, nilS, fgt, isB, truB, truD, notB, orV, andV, notV, b1, b2, bA, aC, aN, vr, vw, cst, nth, sset, bnd_r, opt_s, cond_true, cond_false, eTup_0, eTup_1, eTup_2, eTup_3, eLst_0, eLst_1, eLst_2, eLst_3, callE, mkE, List.replicate_succ, List.replicate_zero, List.length_cons, List.length_nil, List.length_map, if_true, if_false, Nat.reduceAdd, Nat.reduceSub, Bool.false_and, Bool.and_true, Bool.true_and, Bool.and_false, Bool.not_true, Bool.not_false, Bool.true_or, Bool.or_true, Bool.false_or, Bool.or_false, reduceIte, Bool.false_eq_true, dGt, dLt, dGe, dLe, dCmp, dSub, dNeg, aLen, seqD_tup, seqD_lst, seqD_T, Option.map_some, dIsN, dNotN, isNonD_non, isNonD_bl, isNonD_int, isNonD_str, isNonD_tup, isNonD_lst, isNonD_T, forL_nil, forL_cons, loop_nx, loop_ct, loop_bk, loop_rt, frzS, frzE, appS, parS, hd0, lf, lp, hlen, dAdd_ii, hrep, ll]
/-! choose -/
theorem choose_eq {v : Int} {n : Nat} (h0 : -10000 ≤ v) (h1 : v ≤ 100000) (hn : n ≤ 1000) : m_choose [.int v, .int (n : Int)] = ret (.int (H n (v - n))) := by
  unfold m_choose
  by_cases c : (n : Int) ≤ v
  · obtain ⟨N, rfl⟩ : ∃ N : Nat, v = (N : Int) := ⟨v.toNat, by omega⟩
    have hcN : n ≤ N := by omega
    have hc : chain (fun i j => decide (i ≤ j)) (fun i j => decide (i ≤ j)) (cst (.int 0)) (vw 1) (vw 0) [.d (.int (N : Int)), .d (.int (n : Int)), .un, .un] = ret (.bl true) := by
      unfold chain
      simp only [run_r, seq_r, cont_nx, cont_rt, cont_bk, cont_ct, if_r, sel_t, sel_f, ife_r, sele_t, sele_f, and_r, or_r, sela_t, sela_f, selo_t, selo_f, out_rt, out_rtl, out_rtO, out_nx, setD, setO, retS, retO, retV, retN, nilS, fgt, isB, truB, truD, notB, orV, andV, notV, b1, b2, bA, aC, aN, vr, vw, cst, nth, sset, bnd_r, opt_s, cond_true, cond_false, eTup_0, eTup_1, eTup_2, eTup_3, eLst_0, eLst_1, eLst_2, eLst_3, callE, mkE, List.replicate_succ, List.replicate_zero, List.length_cons, List.length_nil, List.length_map, if_true, if_false, Nat.reduceAdd, Nat.reduceSub, Bool.false_and, Bool.and_true, Bool.true_and, Bool.and_false, Bool.not_true, Bool.not_false, Bool.true_or, Bool.or_true, Bool.false_or, Bool.or_false, reduceIte, Bool.false_eq_true, dGt, dLt, dGe, dLe, dCmp, dSub, dNeg, aLen, seqD_tup, seqD_lst, seqD_T, Option.map_some, dIsN, dNotN, isNonD_non, isNonD_bl, isNonD_int, isNonD_str, isNonD_tup, isNonD_lst, isNonD_T, forL_nil, forL_cons, loop_nx, loop_ct, loop_bk, loop_rt, frzS, frzE, appS, parS]
      rw [decide_eq_true (show (0 : Int) ≤ (n : Int) by omega), decide_eq_true c]
      rfl
    have loop := loopR (m := n) (it := itR1 (vw 1)) (b := gN 3) (body := b_choose_1) (fun k : Nat => D.int (k : Int)) (fun k => [.d (.int (N : Int)), .d (.int (n : Int)), .d (.int (hN k (N - k) : Nat)), .un])
      (by simp only [itR1, run_r, seq_r, cont_nx, cont_rt, cont_bk, cont_ct, if_r, sel_t, sel_f, ife_r, sele_t, sele_f, and_r, or_r, sela_t, sela_f, selo_t, selo_f, out_rt, out_rtl, out_rtO, out_nx, setD, setO, retS, retO, retV, retN, nilS, fgt, isB, truB, truD, notB, orV, andV, notV, b1, b2, bA, aC, aN, vr, vw, cst, nth, sset, bnd_r, opt_s, cond_true, cond_false, eTup_0, eTup_1, eTup_2, eTup_3, eLst_0, eLst_1, eLst_2, eLst_3, callE, mkE, List.replicate_succ, List.replicate_zero, List.length_cons, List.length_nil, List.length_map, if_true, if_false, Nat.reduceAdd, Nat.reduceSub, Bool.false_and, Bool.and_true, Bool.true_and, Bool.and_false, Bool.not_true, Bool.not_false, Bool.true_or, Bool.or_true, Bool.false_or, Bool.or_false, reduceIte, Bool.false_eq_true, dGt, dLt, dGe, dLe, dCmp, dSub, dNeg, aLen, seqD_tup, seqD_lst, seqD_T, Option.map_some, dIsN, dNotN, isNonD_non, isNonD_bl, isNonD_int, isNonD_str, isNonD_tup, isNonD_lst, isNonD_T, forL_nil, forL_cons, loop_nx, loop_ct, loop_bk, loop_rt, frzS, frzE, appS, parS]; rw [rg1_nat (by omega), opt_s])
      (fun k hk => by
        refine ⟨_, rfl, ?_⟩
        have m1 : dMul (.int ((hN k (N - k) : Nat) : Int)) (.int ((N : Int) - (k : Int))) = some (.int (((hN k (N - k) : Nat) : Int) * ((N : Int) - (k : Int)))) := dMul_j (by omega) (by omega)
        have d1 : dDiv (.int (((hN k (N - k) : Nat) : Int) * ((N : Int) - (k : Int)))) (.int ((k : Int) + 1)) = some (.int (((hN k (N - k) : Nat) : Int) * ((N : Int) - (k : Int)) / ((k : Int) + 1))) := dDiv_p (by omega) (by omega)
        have e : ((hN k (N - k) : Nat) : Int) * ((N : Int) - (k : Int)) / ((k : Int) + 1) = ((hN (k + 1) (N - (k + 1)) : Nat) : Int) := by
          have := hN_mul k (N - (k + 1))
          rw [show N - (k + 1) + 1 = N - k by omega] at this
          rw [show (N : Int) - (k : Int) = ((N - k : Nat) : Int) by omega, show (k : Int) + 1 = ((k + 1 : Nat) : Int) by omega, ← Int.natCast_mul, Nat.mul_comm, ← this, ← Int.natCast_ediv, Nat.mul_div_cancel_left _ (by omega)]
        unfold b_choose_1
        simp only [run_r, seq_r, cont_nx, cont_rt, cont_bk, cont_ct, if_r, sel_t, sel_f, ife_r, sele_t, sele_f, and_r, or_r, sela_t, sela_f, selo_t, selo_f, out_rt, out_rtl, out_rtO, out_nx, setD, setO, retS, retO, retV, retN, nilS, fgt, isB, truB, truD, notB, orV, andV, notV, b1, b2, bA, aC, aN, vr, vw, cst, nth, sset, bnd_r, opt_s, cond_true, cond_false, eTup_0, eTup_1, eTup_2, eTup_3, eLst_0, eLst_1, eLst_2, eLst_3, callE, mkE, List.replicate_succ, List.replicate_zero, List.length_cons, List.length_nil, List.length_map, if_true, if_false, Nat.reduceAdd, Nat.reduceSub, Bool.false_and, Bool.and_true, Bool.true_and, Bool.and_false, Bool.not_true, Bool.not_false, Bool.true_or, Bool.or_true, Bool.false_or, Bool.or_false, reduceIte, Bool.false_eq_true, dGt, dLt, dGe, dLe, dCmp, dSub, dNeg, aLen, seqD_tup, seqD_lst, seqD_T, Option.map_some, dIsN, dNotN, isNonD_non, isNonD_bl, isNonD_int, isNonD_str, isNonD_tup, isNonD_lst, isNonD_T, forL_nil, forL_cons, loop_nx, loop_ct, loop_bk, loop_rt, frzS, frzE, appS, parS, m1, dAdd_ii, d1, e])
    rw [show hN 0 (N - 0) = 1 by rw [hN]] at loop
    have hfin : H n ((N : Int) - n) = ((hN n (N - n) : Nat) : Int) := by
      rw [show (N : Int) - (n : Int) = ((N - n : Nat) : Int) by omega, H_nat]
    rw [hfin]
    have loop' : forS (itR1 (vw 1)) (gN 3) b_choose_1 [.d (.int (N : Int)), .d (.int (n : Int)), .d (.int 1), .un] = _ := loop
    simp only [run_r, seq_r, cont_nx, cont_rt, cont_bk, cont_ct, if_r, sel_t, sel_f, ife_r, sele_t, sele_f, and_r, or_r, sela_t, sela_f, selo_t, selo_f, out_rt, out_rtl, out_rtO, out_nx, setD, setO, retS, retO, retV, retN, nilS, fgt, isB, truB, truD, notB, orV, andV, notV, b1, b2, bA, aC, aN, vr, vw, cst, nth, sset, bnd_r, opt_s, cond_true, cond_false, eTup_0, eTup_1, eTup_2, eTup_3, eLst_0, eLst_1, eLst_2, eLst_3, callE, mkE, List.replicate_succ, List.replicate_zero, List.length_cons, List.length_nil, List.length_map, if_true, if_false, Nat.reduceAdd, Nat.reduceSub, Bool.false_and, Bool.and_true, Bool.true_and, Bool.and_false, Bool.not_true, Bool.not_false, Bool.true_or, Bool.or_true, Bool.false_or, Bool.or_false, reduceIte, Bool.false_eq_true, dGt, dLt, dGe, dLe, dCmp, dSub, dNeg, aLen, seqD_tup, seqD_lst, seqD_T, Option.map_some, dIsN, dNotN, isNonD_non, isNonD_bl, isNonD_int, isNonD_str, isNonD_tup, isNonD_lst, isNonD_T, forL_nil, forL_cons, loop_nx, loop_ct, loop_bk, loop_rt, frzS, frzE, appS, parS, hc, loop']
  · have hc : chain (fun i j => decide (i ≤ j)) (fun i j => decide (i ≤ j)) (cst (.int 0)) (vw 1) (vw 0) [.d (.int v), .d (.int (n : Int)), .un, .un] = ret (.bl false) := by
      unfold chain
      simp only [run_r, seq_r, cont_nx, cont_rt, cont_bk, cont_ct, if_r, sel_t, sel_f, ife_r, sele_t, sele_f, and_r, or_r, sela_t, sela_f, selo_t, selo_f, out_rt, out_rtl, out_rtO, out_nx, setD, setO, retS, retO, retV, retN, nilS, fgt, isB, truB, truD, notB, orV, andV, notV, b1, b2, bA, aC, aN, vr, vw, cst, nth, sset, bnd_r, opt_s, cond_true, cond_false, eTup_0, eTup_1, eTup_2, eTup_3, eLst_0, eLst_1, eLst_2, eLst_3, callE, mkE, List.replicate_succ, List.replicate_zero, List.length_cons, List.length_nil, List.length_map, if_true, if_false, Nat.reduceAdd, Nat.reduceSub, Bool.false_and, Bool.and_true, Bool.true_and, Bool.and_false, Bool.not_true, Bool.not_false, Bool.true_or, Bool.or_true, Bool.false_or, Bool.or_false, reduceIte, Bool.false_eq_true, dGt, dLt, dGe, dLe, dCmp, dSub, dNeg, aLen, seqD_tup, seqD_lst, seqD_T, Option.map_some, dIsN, dNotN, isNonD_non, isNonD_bl, isNonD_int, isNonD_str, isNonD_tup, isNonD_lst, isNonD_T, forL_nil, forL_cons, loop_nx, loop_ct, loop_bk, loop_rt, frzS, frzE, appS, parS]
      rw [decide_eq_true (show (0 : Int) ≤ (n : Int) by omega), decide_eq_false c]
      rfl
    rw [H_neg (by omega)]
    simp only [run_r, seq_r, cont_nx, cont_rt, cont_bk, cont_ct, if_r, sel_t, sel_f, ife_r, sele_t, sele_f, and_r, or_r, sela_t, sela_f, selo_t, selo_f, out_rt, out_rtl, out_rtO, out_nx, setD, setO, retS, retO, retV, retN, nilS, fgt, isB, truB, truD, notB, orV, andV, notV, b1, b2, bA, aC, aN, vr, vw, cst, nth, sset, bnd_r, opt_s, cond_true, cond_false, eTup_0, eTup_1, eTup_2, eTup_3, eLst_0, eLst_1, eLst_2, eLst_3, callE, mkE, List.replicate_succ, List.replicate_zero, List.length_cons, List.length_nil, List.length_map, if_true, if_false, Nat.reduceAdd, Nat.reduceSub, Bool.false_and, Bool.and_true, Bool.true_and, Bool.and_false, Bool.not_true, Bool.not_false, Bool.true_or, Bool.or_true, Bool.false_or, Bool.or_false, reduceIte, Bool.false_eq_true, dGt, dLt, dGe, dLe, dCmp, dSub, dNeg, aLen, seqD_tup, seqD_lst, seqD_T, Option.map_some, dIsN, dNotN, isNonD_non, isNonD_bl, isNonD_int, isNonD_str, isNonD_tup, isNonD_lst, isNonD_T, forL_nil, forL_cons, loop_nx, loop_ct, loop_bk, loop_rt, frzS, frzE, appS, parS, hc]
theorem aSum_map {α : Type} (L : List α) (f : α → Int) : aSum [.lst (L.map fun k => D.int (f k))] = some (.int (L.map f).sum) := by
  have h := aSum_T (L.map f)
  have e : L.map (fun k => D.int (f k)) = (L.map f).map D.int := by rw [List.map_map]; rfl
  rw [e]
  exact h
theorem cbr_eq {S : List Nat} {t : Nat} (h1 : 1 ≤ S.length) (hn : S.length ≤ 100) (hs : ∀ s ∈ S, s ≤ 100) (ht : t ≤ 1000) (hp : S.foldl (· * ·) 1 < 1000000000000) : m_count_by_rises [T (sI S), .int (t : Int)] = ret (.int (A (fun m => H S.length ((t : Int) - m)) 1 S 0 0)) := by
  have hlen : aLen [T (sI S)] = some (.int (S.length : Nat)) := by
    show some (D.int (((sI S).map D.int).length : Nat)) = _
    rw [List.length_map, sI_len]
  have hc : c_count_by_rises_1 [.d (T (sI S)), .d (.int (t : Int)), .d (.int (S.length : Nat)), .un, .un] = ret (.lst ((List.range (S.length + 1)).map fun k => D.int (tl S k * H S.length ((t : Int) - k)))) := by
    unfold c_count_by_rises_1
    refine lcE_map (fun k : Nat => D.tup [.int (k : Int), .int (tl S k)]) (fun k : Nat => D.int (tl S k * H S.length ((t : Int) - k))) (List.range (S.length + 1)) ?_ (by rw [List.length_range, sizeLine_eq]; omega) fun k hk => ⟨_, rfl, ?_⟩
    · simp only [itEn, run_r, seq_r, cont_nx, cont_rt, cont_bk, cont_ct, if_r, sel_t, sel_f, ife_r, sele_t, sele_f, and_r, or_r, sela_t, sela_f, selo_t, selo_f, out_rt, out_rtl, out_rtO, out_nx, setD, setO, retS, retO, retV, retN, nilS, fgt, isB, truB, truD, notB, orV, andV, notV, b1, b2, bA, aC, aN, vr, vw, cst, nth, sset, bnd_r, opt_s, cond_true, cond_false, eTup_0, eTup_1, eTup_2, eTup_3, eLst_0, eLst_1, eLst_2, eLst_3, callE, mkE, List.replicate_succ, List.replicate_zero, List.length_cons, List.length_nil, List.length_map, if_true, if_false, Nat.reduceAdd, Nat.reduceSub, Bool.false_and, Bool.and_true, Bool.true_and, Bool.and_false, Bool.not_true, Bool.not_false, Bool.true_or, Bool.or_true, Bool.false_or, Bool.or_false, reduceIte, Bool.false_eq_true, dGt, dLt, dGe, dLe, dCmp, dSub, dNeg, aLen, seqD_tup, seqD_lst, seqD_T, Option.map_some, dIsN, dNotN, isNonD_non, isNonD_bl, isNonD_int, isNonD_str, isNonD_tup, isNonD_lst, isNonD_T, forL_nil, forL_cons, loop_nx, loop_ct, loop_bk, loop_rt, frzS, frzE, appS, parS, rise_eq h1 hn hs]
      rw [enum_tab]
    · have hk' := List.mem_range.mp hk
      have hb := tl_bd S k
      have hch := choose_eq (v := (t : Int) + (S.length : Int) - (k : Int)) (n := S.length) (by omega) (by omega) (by omega)
      rw [show (t : Int) + (S.length : Int) - (k : Int) - (S.length : Int) = (t : Int) - (k : Int) by omega] at hch
      simp only [run_r, seq_r, cont_nx, cont_rt, cont_bk, cont_ct, if_r, sel_t, sel_f, ife_r, sele_t, sele_f, and_r, or_r, sela_t, sela_f, selo_t, selo_f, out_rt, out_rtl, out_rtO, out_nx, setD, setO, retS, retO, retV, retN, nilS, fgt, isB, truB, truD, notB, orV, andV, notV, b1, b2, bA, aC, aN, vr, vw, cst, nth, sset, bnd_r, opt_s, cond_true, cond_false, eTup_0, eTup_1, eTup_2, eTup_3, eLst_0, eLst_1, eLst_2, eLst_3, callE, mkE, List.replicate_succ, List.replicate_zero, List.length_cons, List.length_nil, List.length_map, if_true, if_false, Nat.reduceAdd, Nat.reduceSub, Bool.false_and, Bool.and_true, Bool.true_and, Bool.and_false, Bool.not_true, Bool.not_false, Bool.true_or, Bool.or_true, Bool.false_or, Bool.or_false, reduceIte, Bool.false_eq_true, dGt, dLt, dGe, dLe, dCmp, dSub, dNeg, aLen, seqD_tup, seqD_lst, seqD_T, Option.map_some, dIsN, dNotN, isNonD_non, isNonD_bl, isNonD_int, isNonD_str, isNonD_tup, isNonD_lst, isNonD_T, forL_nil, forL_cons, loop_nx, loop_ct, loop_bk, loop_rt, frzS, frzE, appS, parS, dAdd_ii, hch, dMul_ii (i := tl S k) (j := H S.length ((t : Int) - k)) (by omega) (by omega)]
  have hsum := aSum_map (List.range (S.length + 1)) (fun k => tl S k * H S.length ((t : Int) - k))
  rw [show ((List.range (S.length + 1)).map fun k => tl S k * H S.length ((t : Int) - k)).sum = A (fun m => H S.length ((t : Int) - m)) 1 S 0 0 from tl_sum S fun m => H S.length ((t : Int) - m)] at hsum
  unfold m_count_by_rises
  simp only [run_r, seq_r, cont_nx, cont_rt, cont_bk, cont_ct, if_r, sel_t, sel_f, ife_r, sele_t, sele_f, and_r, or_r, sela_t, sela_f, selo_t, selo_f, out_rt, out_rtl, out_rtO, out_nx, setD, setO, retS, retO, retV, retN, nilS, fgt, isB, truB, truD, notB, orV, andV, notV, b1, b2, bA, aC, aN, vr, vw, cst, nth, sset, bnd_r, opt_s, cond_true, cond_false, eTup_0, eTup_1, eTup_2, eTup_3, eLst_0, eLst_1, eLst_2, eLst_3, callE, mkE, List.replicate_succ, List.replicate_zero, List.length_cons, List.length_nil, List.length_map, if_true, if_false, Nat.reduceAdd, Nat.reduceSub, Bool.false_and, Bool.and_true, Bool.true_and, Bool.and_false, Bool.not_true, Bool.not_false, Bool.true_or, Bool.or_true, Bool.false_or, Bool.or_false, reduceIte, Bool.false_eq_true, dGt, dLt, dGe, dLe, dCmp, dSub, dNeg, aLen, seqD_tup, seqD_lst, seqD_T, Option.map_some, dIsN, dNotN, isNonD_non, isNonD_bl, isNonD_int, isNonD_str, isNonD_tup, isNonD_lst, isNonD_T, forL_nil, forL_cons, loop_nx, loop_ct, loop_bk, loop_rt, frzS, frzE, appS, parS, sI_len, hc, hsum]
theorem rise_sum {S : List Nat} : aSum [.lst (tab (S.length + 1) (tl S))] = some (.int ((S.foldl (· * ·) 1 : Nat) : Int)) := by
  have h := aSum_map (List.range (S.length + 1)) (tl S)
  have e := tl_sum S (fun _ => 1)
  rw [A_one] at e
  rw [show ((List.range (S.length + 1)).map (tl S)).sum = ((S.foldl (· * ·) 1 : Nat) : Int) by
    rw [← e]
    show sm _ _ = sm _ _
    exact sm_congr fun i _ => by rw [Int.mul_one]] at h
  exact h
end K59
end
section
set_option maxHeartbeats 1000000
/-! index rows -/
namespace P58
open P59
open K59 (dl tl)
def ext (C : List (List Nat)) (x : Nat) : List (List Nat) := C.flatMap fun r => (List.range x).map fun e => r ++ [e]
def rwF : List Nat → List (List Nat)
  | [] => [[]]
  | s :: rest => (List.range s).flatMap fun x => (rwF rest).map (x :: ·)
theorem ext_all : ∀ (rest : List Nat) (C : List (List Nat)), rest.foldl ext C = C.flatMap fun r => (rwF rest).map (r ++ ·)
  | [], C => by simp [rwF]
  | x :: rest, C => by
    rw [List.foldl_cons, ext_all rest, rwF]
    unfold ext
    rw [List.flatMap_assoc]
    congr 1
    funext r
    rw [List.flatMap_map, List.map_flatMap]
    congr 1
    funext e
    rw [List.map_map]
    refine List.map_congr_left fun t _ => ?_
    simp
theorem rows_all (S : List Nat) : S.foldl ext [[]] = rwF S := by
  rw [ext_all]; simp
theorem sum_c {α : Type} (x : Nat) : ∀ l : List α, (l.map fun _ => x).sum = l.length * x
  | [] => by simp
  | a :: l => by rw [List.map_cons, List.sum_cons, sum_c x l, List.length_cons, Nat.succ_mul, Nat.add_comm]
theorem ext_len (C : List (List Nat)) (x : Nat) : (ext C x).length = C.length * x := by
  unfold ext
  rw [List.length_flatMap]
  simp only [List.length_map, List.length_range]
  exact sum_c x C
theorem rwF_row : ∀ {S : List Nat} {r : List Nat}, r ∈ rwF S → r.length = S.length ∧ ∀ k, k < S.length → r.getD k 0 < S.getD k 0
  | [], r, h => by rw [rwF, List.mem_singleton] at h; subst h; exact ⟨rfl, fun k hk => absurd hk (by simp)⟩
  | s :: rest, r, h => by
    rw [rwF, List.mem_flatMap] at h
    obtain ⟨x, hx, h⟩ := h
    rw [List.mem_map] at h
    obtain ⟨t, ht, rfl⟩ := h
    obtain ⟨h1, h2⟩ := rwF_row ht
    refine ⟨by simp [h1], fun k hk => ?_⟩
    cases k with
    | zero => exact List.mem_range.mp hx
    | succ k => exact h2 k (by simpa using hk)
theorem rwF_len : ∀ (S : List Nat) (p : Nat), p * (rwF S).length = S.foldl (· * ·) p
  | [], p => by simp [rwF]
  | s :: rest, p => by
    rw [List.foldl_cons, ← rwF_len rest (p * s), rwF, List.length_flatMap]
    simp only [List.length_map]
    rw [sum_c, List.length_range, Nat.mul_assoc]
def ri : Nat → Nat → List Nat → List Nat → Nat
  | s, r, s' :: rest, x :: row => asc s s' r x + ri s' x rest row
  | _, _, _, _ => 0
theorem ri_le : ∀ (S row : List Nat) (s r : Nat), ri s r S row ≤ S.length
  | [], row, s, r => by unfold ri; simp
  | s' :: S, [], s, r => by unfold ri; simp
  | s' :: S, x :: row, s, r => by
    have := ri_le S row s' x
    have h2 := K59.asc_le s s' r x
    rw [ri, List.length_cons]; omega
theorem sum_fm {α β : Type} (g : α → List β) (h : β → Int) : ∀ l : List α, ((l.flatMap g).map h).sum = (l.map fun a => ((g a).map h).sum).sum
  | [] => rfl
  | a :: l => by rw [List.flatMap_cons, List.map_append, List.sum_append, sum_fm g h l, List.map_cons, List.sum_cons]
theorem A_rows (fin : Nat → Int) : ∀ (rest : List Nat) (s r m : Nat), A fin s rest r m = ((rwF rest).map fun row => fin (m + ri s r rest row)).sum
  | [], s, r, m => by show fin m = _; simp [rwF, ri]
  | s' :: rest, s, r, m => by
    rw [A, rwF, sum_fm]
    unfold sm
    congr 1
    refine List.map_congr_left fun x _ => ?_
    rw [A_rows fin rest s' x, List.map_map]
    congr 1
    refine List.map_congr_left fun row _ => ?_
    show fin _ = fin (m + (asc s s' r x + ri s' x rest row))
    rw [Nat.add_assoc]
/-- partial sums of the rises -/
def rp (S row : List Nat) : Nat → Nat
  | 0 => asc 1 (S.getD 0 0) 0 (row.getD 0 0)
  | k + 1 => rp S row k + asc (S.getD k 0) (S.getD (k + 1) 0) (row.getD k 0) (row.getD (k + 1) 0)
def rq (S row : List Nat) : Nat → Nat
  | 0 => 0
  | k + 1 => rq S row k + asc (S.getD k 0) (S.getD (k + 1) 0) (row.getD k 0) (row.getD (k + 1) 0)
theorem rp_rq (S row : List Nat) : ∀ k, rp S row k = asc 1 (S.getD 0 0) 0 (row.getD 0 0) + rq S row k
  | 0 => rfl
  | k + 1 => by rw [rp, rq, rp_rq S row k, Nat.add_assoc]
theorem rq_cons (s x : Nat) (S row : List Nat) : ∀ k, rq (s :: S) (x :: row) (k + 1) = asc s (S.getD 0 0) x (row.getD 0 0) + rq S row k
  | 0 => by simp [rq]
  | k + 1 => by
    rw [rq, rq_cons s x S row k, rq]
    simp only [List.getD_cons_succ]
    omega
theorem ri_rq : ∀ (S row : List Nat) (s r : Nat), row.length = S.length → ri s r S row = (if S = [] then 0 else asc s (S.getD 0 0) r (row.getD 0 0)) + rq S row (row.length - 1)
  | [], row, s, r, h => by
    rw [List.length_nil, List.length_eq_zero_iff] at h
    subst h; rfl
  | s' :: S, [], s, r, h => by cases h
  | s' :: S, x :: row, s, r, h => by
    have h : row.length = S.length := by simpa using h
    rw [ri, ri_rq S row s' x h, if_neg (List.cons_ne_nil s' S), List.getD_cons_zero, List.getD_cons_zero, List.length_cons, Nat.add_sub_cancel]
    cases row with
    | nil =>
      rw [List.length_nil, eq_comm, List.length_eq_zero_iff] at h
      subst h
      rfl
    | cons y row =>
      cases S with
      | nil => cases h
      | cons t S =>
        rw [if_neg (List.cons_ne_nil t S), List.length_cons, Nat.add_sub_cancel, rq_cons]
theorem ri_rp {S row : List Nat} (h : row.length = S.length) (hS : S ≠ []) : ri 1 0 S row = rp S row (row.length - 1) := by
  rw [ri_rq S row 1 0 h, if_neg hS, rp_rq]
/-- how many rows have k rises -/
theorem tl_rows (S : List Nat) (m : Nat) : tl S m = ((rwF S).map fun row => dl m (ri 1 0 S row)).sum := by
  unfold tl
  rw [A_rows]
  congr 1
  exact List.map_congr_left fun row _ => by rw [Nat.zero_add]
theorem peak {S : List Nat} (hl : S.length ≤ 5) (hx : ∀ x ∈ S, 1 ≤ x ∧ x ≤ 7) (hp : S.foldl (· * ·) 1 ≤ 400) :
    ∃ p, p < S.length + 1 ∧ (∀ k, k < p → tl S k ≤ tl S (k + 1)) ∧ ∀ k, p ≤ k → k + 1 < S.length + 1 → tl S (k + 1) ≤ tl S k := by
  have hb : ∀ k, 0 ≤ tl S k ∧ tl S k ≤ 400 := fun k => by
    have := K59.tl_bd S k
    omega
  obtain ⟨p, h1, h2, h3⟩ := uni_ok (S := S) (f := fun k => (tl S k).toNat) hl hx hp (fun k _ => by have := hb k; omega) (by
    rw [← K59.tl_sum S cB]
    refine sm_congr fun k _ => ?_
    rw [Int.toNat_of_nonneg (hb k).1])
  refine ⟨p, h1, fun k hk => ?_, fun k hk hk2 => ?_⟩
  · have := h2 k hk; have a := hb k; have b := hb (k + 1); omega
  · have := h3 k hk hk2; have a := hb k; have b := hb (k + 1); omega
end P58
end
section
/-! LbL: comprehensions with two clauses, evaluated. -/
namespace LbL
open PySem PySem.Spec PyProof.Rows L2 FL Lb
theorem lcL_fil {α : Type} {b : GF} {tt : BF} {el : EF} {ρ : FL.Env} (enc : α → D) (c : α → Bool) (g : α → D) : ∀ l : List α, (∀ a ∈ l, ∃ ρ1, b (enc a) ρ = some ρ1 ∧ tt ρ1 = ret (c a) ∧ (c a = true → el ρ1 = ret (g a))) → lcL b tt el ρ (l.map enc) = ret ((l.filter c).map g)
  | [], _ => rfl
  | a :: l, h => by
    obtain ⟨ρ1, e1, e2, e3⟩ := h a (by simp)
    rw [List.map_cons, lcL, e1, opt_s, bnd_r, e2, bnd_r, lcL_fil enc c g l fun x hx => h x (by simp [hx])]
    by_cases hc : c a = true
    · rw [hc, cond_true, e3 hc, bnd_r, bnd_r, List.filter_cons_of_pos hc]; rfl
    · rw [List.filter_cons_of_neg hc]
      rw [Bool.not_eq_true] at hc
      rw [hc, cond_false]
theorem lcE2_fil {α β : Type} {it it1 : AF} {b b1 : GF} {tt tt1 : BF} {el : EF} {vs vs1 : List Nat} {ρ : FL.Env} (enc : α → D) (l : List α) (enc1 : β → D) (f : α → List β) (c : α → β → Bool) (g : α → β → D) (hit : it ρ = ret (l.map enc)) (hz : (l.map fun a => (f a).length).sum ≤ 1000000)
    (h : ∀ a ∈ l, ∃ ρ1, b (enc a) (FL.fgt vs ρ) = some ρ1 ∧ tt ρ1 = ret true ∧ it1 ρ1 = ret ((f a).map enc1) ∧ ∀ y ∈ f a, ∃ ρ2, b1 (enc1 y) (FL.fgt vs1 (dropO ρ1)) = some ρ2 ∧ tt1 ρ2 = ret (c a y) ∧ (c a y = true → el ρ2 = ret (g a y))) :
    lcE2 it b tt it1 b1 tt1 el vs vs1 ρ = ret (.lst (l.flatMap fun a => ((f a).filter (c a)).map (g a))) := by
  have main : ∀ r : List α, (∀ a ∈ r, a ∈ l) → lcL2 b tt it1 b1 tt1 el vs1 (FL.fgt vs ρ) (r.map enc) = ret (r.flatMap fun a => ((f a).filter (c a)).map (g a)) := by
    intro r
    induction r with
    | nil => intro _; rfl
    | cons a r ih =>
      intro hr
      obtain ⟨ρ1, e1, e2, e3, e4⟩ := h a (hr a (by simp))
      rw [List.map_cons, lcL2, e1, opt_s, bnd_r, e2, bnd_r, cond_true, e3, bnd_r, lcL_fil enc1 (c a) (g a) (f a) e4, bnd_r, ih fun x hx => hr x (by simp [hx]), bnd_r, List.flatMap_cons]
  unfold lcE2
  rw [hit, bnd_r, main l fun _ h => h, bnd_r, if_pos]
  have hl : ∀ r : List α, (r.flatMap fun a => ((f a).filter (c a)).map (g a)).length ≤ (r.map fun a => (f a).length).sum := by
    intro r
    induction r with
    | nil => exact Nat.le_refl _
    | cons a r ih =>
      rw [List.flatMap_cons, List.length_append, List.map_cons, List.sum_cons, List.length_map]
      have := List.length_filter_le (c a) (f a)
      omega
  have := hl l
  rw [sizeLine_eq]; omega
end LbL
end
section
set_option maxHeartbeats 1000000
namespace K58
open PySem PySem.Spec PyProof.Rows L2 FL Lb LbD
open P59 (asc)
open P58 (ext rwF ri rp rq)
open K59 (sI sI_len sI_ix tl dl)
theorem rn_same : m_rise_numbers = K59.m_rise_numbers := rfl
theorem leq_eq : ∀ k, m__law_eq k = lawEqM k
  | 0 => rfl
  | k + 1 => by rw [m__law_eq, lawEqM, leq_eq k]; rfl
theorem getD_mem {S : List Nat} {k : Nat} (h : k < S.length) : S.getD k 0 ∈ S := by
  rw [List.getD_eq_getElem?_getD, List.getElem?_eq_getElem h, Option.getD_some]
  exact List.getElem_mem h
def TN (r : List Nat) : D := T (sI r)
theorem dAdd_TN {r : List Nat} {m : Nat} (h : r.length ≤ 100) : dAdd (TN r) (.tup [.int (m : Int)]) = some (TN (r ++ [m])) := by
  have h2 := dAdd_TT (p := sI r) (q := [(m : Int)]) (by rw [sI_len]; show r.length + 1 < 1000000; omega)
  have e : sI r ++ [(m : Int)] = sI (r ++ [m]) := by unfold sI; rw [List.map_append]; rfl
  rw [e] at h2
  exact h2
theorem ixN {r : List Nat} {k : Nat} (h : k < r.length) : dIx (TN r) (.int (k : Int)) = some (.int ((r.getD k 0 : Nat) : Int)) := by
  have h2 := sI_ix (S := r) (k := k) h
  rw [show dIxA (T (sI r)) (.int (k : Int)) = dIx (T (sI r)) (.int (k : Int)) from rfl] at h2
  exact h2
/-- the steps to come keep the rows few -/
def IR (rest : List Nat) (C : List (List Nat)) : Prop := rest.foldl (· * ·) C.length ≤ 400 ∧ (∀ r ∈ C, r.length + rest.length ≤ 5) ∧ ∀ x ∈ rest, 1 ≤ x ∧ x ≤ 7
theorem IR.next {x : Nat} {rest : List Nat} {C : List (List Nat)} (h : IR (x :: rest) C) : IR rest (ext C x) ∧ (ext C x).length ≤ 400 ∧ C.length ≤ 400 := by
  obtain ⟨h1, h2, h3⟩ := h
  rw [List.foldl_cons, ← P58.ext_len] at h1
  have h4 := P58.prod_pos rest (ext C x).length fun y hy => (h3 y (by simp [hy])).1
  have h5 : (ext C x).length = C.length * x := P58.ext_len C x
  have h6 : C.length ≤ C.length * x := Nat.le_mul_of_pos_right _ (h3 x (by simp)).1
  refine ⟨⟨h1, fun r hr => ?_, fun y hy => h3 y (by simp [hy])⟩, by omega, by omega⟩
  unfold ext at hr
  rw [List.mem_flatMap] at hr
  obtain ⟨q, hq, hr⟩ := hr
  rw [List.mem_map] at hr
  obtain ⟨e, _, rfl⟩ := hr
  have := h2 q hq
  rw [List.length_cons] at this
  rw [List.length_append, List.length_singleton]; omega
theorem IR.start {S : List Nat} (hl : S.length ≤ 5) (hx : ∀ x ∈ S, 1 ≤ x ∧ x ≤ 7) (hp : S.foldl (· * ·) 1 ≤ 400) : IR S [[]] := ⟨hp, fun r hr => by rw [List.mem_singleton.mp hr]; simp; exact hl, hx⟩
def Cd (C : List (List Nat)) : D := .lst (C.map TN)
theorem itSt {f : EF} {ρ : FL.Env} {S : List Nat} (h : f ρ = ret (TN S)) : itS f ρ = ret (S.map fun x : Nat => D.int (x : Int)) := by
  simp only [itS, run_r, seq_r, cont_nx, cont_rt, cont_bk, cont_ct, if_r, sel_t, sel_f, ife_r, sele_t, sele_f, and_r, or_r, sela_t, sela_f, selo_t, selo_f, out_rt, out_rtl, out_rtO, out_nx, setD, setO, retS, retO, retV, retN, nilS, fgt, isB, truB, truD, notB, orV, andV, notV, b1, b2, bA, aC, aN, vr, vw, cst, nth, sset, bnd_r, opt_s, cond_true, cond_false, eTup_0, eTup_1, eTup_2, eTup_3, eLst_0, eLst_1, eLst_2, eLst_3, callE, mkE, List.replicate_succ, List.replicate_zero, List.length_cons, List.length_nil, List.length_map, if_true, if_false, Nat.reduceAdd, Nat.reduceSub, Bool.false_and, Bool.and_true, Bool.true_and, Bool.and_false, Bool.not_true, Bool.not_false, Bool.true_or, Bool.or_true, Bool.false_or, Bool.or_false, reduceIte, Bool.false_eq_true, dGt, dLt, dGe, dLe, dCmp, dSub, dNeg, aLen, seqD_tup, seqD_lst, seqD_T, Option.map_some, dIsN, dNotN, isNonD_non, isNonD_bl, isNonD_int, isNonD_str, isNonD_tup, isNonD_lst, isNonD_T, forL_nil, forL_cons, loop_nx, loop_ct, loop_bk, loop_rt, frzS, frzE, appS, parS, h]
  unfold TN
  simp only [seqD_T, opt_s]
  unfold sI
  rw [List.map_map]; rfl
theorem index_eq {S : List Nat} (hl : S.length ≤ 5) (hx : ∀ x ∈ S, 1 ≤ x ∧ x ≤ 7) (hp : S.foldl (· * ·) 1 ≤ 400) : m_index_rows [TN S] = ret (Cd (rwF S)) := by
  have lp := forFold (it := itS (vr 0)) (b := gN 2) (body := b_index_rows_1) (l := S) (enc := fun x : Nat => D.int (x : Int)) (E := fun C => [.d (TN S), .d (Cd C), .un, .un, .un]) (ρ0 := [.d (TN S), .d (Cd [[]]), .un, .un, .un]) (step := ext) IR (s0 := [[]]) (itSt rfl) (IR.start hl hx hp) (fun _ _ => rfl)
    (fun x r C _ hI => by
      obtain ⟨n1, n2, n3⟩ := hI.next
      refine ⟨_, rfl, ?_, n1⟩
      have hx7 := hI.2.2 x (by simp)
      have hc : c_index_rows_1 [.d (TN S), .d (Cd C), .d (.int (x : Int)), .un, .un] = ret (Cd (ext C x)) := by
        unfold c_index_rows_1
        have h := LbL.lcE2_fil (it := itS (vr 1)) (b := gN 3) (tt := yesB) (it1 := itR1 (vw 2)) (b1 := gN 4) (tt1 := yesB) (el := b2 dAdd (vw 3) (eTup (aC (vr 4) aN))) (vs := [3, 4]) (vs1 := [4]) (ρ := [.d (TN S), .d (Cd C), .d (.int (x : Int)), .un, .un]) TN C (fun k : Nat => D.int (k : Int)) (fun _ => List.range x) (fun _ _ => true) (fun r e => TN (r ++ [e])) (by unfold Cd; simp only [itS, run_r, seq_r, cont_nx, cont_rt, cont_bk, cont_ct, if_r, sel_t, sel_f, ife_r, sele_t, sele_f, and_r, or_r, sela_t, sela_f, selo_t, selo_f, out_rt, out_rtl, out_rtO, out_nx, setD, setO, retS, retO, retV, retN, nilS, fgt, isB, truB, truD, notB, orV, andV, notV, b1, b2, bA, aC, aN, vr, vw, cst, nth, sset, bnd_r, opt_s, cond_true, cond_false, eTup_0, eTup_1, eTup_2, eTup_3, eLst_0, eLst_1, eLst_2, eLst_3, callE, mkE, List.replicate_succ, List.replicate_zero, List.length_cons, List.length_nil, List.length_map, if_true, if_false, Nat.reduceAdd, Nat.reduceSub, Bool.false_and, Bool.and_true, Bool.true_and, Bool.and_false, Bool.not_true, Bool.not_false, Bool.true_or, Bool.or_true, Bool.false_or, Bool.or_false, reduceIte, Bool.false_eq_true, dGt, dLt, dGe, dLe, dCmp, dSub, dNeg, aLen, seqD_tup, seqD_lst, seqD_T, Option.map_some, dIsN, dNotN, isNonD_non, isNonD_bl, isNonD_int, isNonD_str, isNonD_tup, isNonD_lst, isNonD_T, forL_nil, forL_cons, loop_nx, loop_ct, loop_bk, loop_rt, frzS, frzE, appS, parS]) (by
            rw [P58.sum_c, List.length_range, ← P58.ext_len]; omega) (fun r hr => ⟨_, rfl, rfl, by
            simp only [itR1, run_r, seq_r, cont_nx, cont_rt, cont_bk, cont_ct, if_r, sel_t, sel_f, ife_r, sele_t, sele_f, and_r, or_r, sela_t, sela_f, selo_t, selo_f, out_rt, out_rtl, out_rtO, out_nx, setD, setO, retS, retO, retV, retN, nilS, fgt, isB, truB, truD, notB, orV, andV, notV, b1, b2, bA, aC, aN, vr, vw, cst, nth, sset, bnd_r, opt_s, cond_true, cond_false, eTup_0, eTup_1, eTup_2, eTup_3, eLst_0, eLst_1, eLst_2, eLst_3, callE, mkE, List.replicate_succ, List.replicate_zero, List.length_cons, List.length_nil, List.length_map, if_true, if_false, Nat.reduceAdd, Nat.reduceSub, Bool.false_and, Bool.and_true, Bool.true_and, Bool.and_false, Bool.not_true, Bool.not_false, Bool.true_or, Bool.or_true, Bool.false_or, Bool.or_false, reduceIte, Bool.false_eq_true, dGt, dLt, dGe, dLe, dCmp, dSub, dNeg, aLen, seqD_tup, seqD_lst, seqD_T, Option.map_some, dIsN, dNotN, isNonD_non, isNonD_bl, isNonD_int, isNonD_str, isNonD_tup, isNonD_lst, isNonD_T, forL_nil, forL_cons, loop_nx, loop_ct, loop_bk, loop_rt, frzS, frzE, appS, parS, fgt]
            rw [rg1_nat (by omega), opt_s], fun y hy => ⟨_, rfl, rfl, fun _ => by
              have := hI.2.1 r hr
              have ha := dAdd_TN (r := r) (m := y) (by omega)
              simp only [run_r, seq_r, cont_nx, cont_rt, cont_bk, cont_ct, if_r, sel_t, sel_f, ife_r, sele_t, sele_f, and_r, or_r, sela_t, sela_f, selo_t, selo_f, out_rt, out_rtl, out_rtO, out_nx, setD, setO, retS, retO, retV, retN, nilS, fgt, isB, truB, truD, notB, orV, andV, notV, b1, b2, bA, aC, aN, vr, vw, cst, nth, sset, bnd_r, opt_s, cond_true, cond_false, eTup_0, eTup_1, eTup_2, eTup_3, eLst_0, eLst_1, eLst_2, eLst_3, callE, mkE, List.replicate_succ, List.replicate_zero, List.length_cons, List.length_nil, List.length_map, if_true, if_false, Nat.reduceAdd, Nat.reduceSub, Bool.false_and, Bool.and_true, Bool.true_and, Bool.and_false, Bool.not_true, Bool.not_false, Bool.true_or, Bool.or_true, Bool.false_or, Bool.or_false, reduceIte, Bool.false_eq_true, dGt, dLt, dGe, dLe, dCmp, dSub, dNeg, aLen, seqD_tup, seqD_lst, seqD_T, Option.map_some, dIsN, dNotN, isNonD_non, isNonD_bl, isNonD_int, isNonD_str, isNonD_tup, isNonD_lst, isNonD_T, forL_nil, forL_cons, loop_nx, loop_ct, loop_bk, loop_rt, frzS, frzE, appS, parS, dropO, List.map_cons, List.map_nil, thO, ha]⟩⟩)
        rw [h]
        unfold Cd ext
        rw [List.map_flatMap]
        congr 3
        funext r
        rw [List.map_map, List.filter_eq_self.mpr (fun _ _ => rfl)]
        rfl
      unfold b_index_rows_1
      simp only [run_r, seq_r, cont_nx, cont_rt, cont_bk, cont_ct, if_r, sel_t, sel_f, ife_r, sele_t, sele_f, and_r, or_r, sela_t, sela_f, selo_t, selo_f, out_rt, out_rtl, out_rtO, out_nx, setD, setO, retS, retO, retV, retN, nilS, fgt, isB, truB, truD, notB, orV, andV, notV, b1, b2, bA, aC, aN, vr, vw, cst, nth, sset, bnd_r, opt_s, cond_true, cond_false, eTup_0, eTup_1, eTup_2, eTup_3, eLst_0, eLst_1, eLst_2, eLst_3, callE, mkE, List.replicate_succ, List.replicate_zero, List.length_cons, List.length_nil, List.length_map, if_true, if_false, Nat.reduceAdd, Nat.reduceSub, Bool.false_and, Bool.and_true, Bool.true_and, Bool.and_false, Bool.not_true, Bool.not_false, Bool.true_or, Bool.or_true, Bool.false_or, Bool.or_false, reduceIte, Bool.false_eq_true, dGt, dLt, dGe, dLe, dCmp, dSub, dNeg, aLen, seqD_tup, seqD_lst, seqD_T, Option.map_some, dIsN, dNotN, isNonD_non, isNonD_bl, isNonD_int, isNonD_str, isNonD_tup, isNonD_lst, isNonD_T, forL_nil, forL_cons, loop_nx, loop_ct, loop_bk, loop_rt, frzS, frzE, appS, parS, hc])
  rw [P58.rows_all] at lp
  have e : (if S.isEmpty = true then [SV.d (TN S), .d (Cd [[]]), .un, .un, .un] else [.d (TN S), .d (Cd (rwF S)), .un, .un, .un]) = [.d (TN S), .d (Cd (rwF S)), .un, .un, .un] := by
    cases S with
    | nil => rfl
    | cons _ _ => rfl
  rw [e] at lp
  have d0 : D.lst [.tup []] = Cd [[]] := rfl
  unfold m_index_rows
  simp only [run_r, seq_r, cont_nx, cont_rt, cont_bk, cont_ct, if_r, sel_t, sel_f, ife_r, sele_t, sele_f, and_r, or_r, sela_t, sela_f, selo_t, selo_f, out_rt, out_rtl, out_rtO, out_nx, setD, setO, retS, retO, retV, retN, nilS, fgt, isB, truB, truD, notB, orV, andV, notV, b1, b2, bA, aC, aN, vr, vw, cst, nth, sset, bnd_r, opt_s, cond_true, cond_false, eTup_0, eTup_1, eTup_2, eTup_3, eLst_0, eLst_1, eLst_2, eLst_3, callE, mkE, List.replicate_succ, List.replicate_zero, List.length_cons, List.length_nil, List.length_map, if_true, if_false, Nat.reduceAdd, Nat.reduceSub, Bool.false_and, Bool.and_true, Bool.true_and, Bool.and_false, Bool.not_true, Bool.not_false, Bool.true_or, Bool.or_true, Bool.false_or, Bool.or_false, reduceIte, Bool.false_eq_true, dGt, dLt, dGe, dLe, dCmp, dSub, dNeg, aLen, seqD_tup, seqD_lst, seqD_T, Option.map_some, dIsN, dNotN, isNonD_non, isNonD_bl, isNonD_int, isNonD_str, isNonD_tup, isNonD_lst, isNonD_T, forL_nil, forL_cons, loop_nx, loop_ct, loop_bk, loop_rt, frzS, frzE, appS, parS, d0, lp]
section
variable {S row : List Nat}
theorem mulN {a b : Nat} (ha : a ≤ 1000) : dMul (.int (a : Int)) (.int (b : Int)) = some (.int ((a * b : Nat) : Int)) := by
  rw [dMul_ii (by omega) (by omega), Int.natCast_mul]
theorem asc_int (s s' r r' : Nat) : (if decide (((r * s' : Nat) : Int) < ((r' * s : Nat) : Int)) = true then (1 : Int) else 0) = (asc s s' r r' : Nat) := by
  unfold asc
  by_cases h : r * s' < r' * s
  · rw [if_pos (by rw [decide_eq_true_eq]; omega), if_pos h]; rfl
  · rw [if_neg (by rw [decide_eq_true_eq]; omega), if_neg h]; rfl
theorem lrises_eq (h : row ∈ rwF S) (hS : S ≠ []) (hx : ∀ x ∈ S, 1 ≤ x ∧ x ≤ 7) (hl : S.length ≤ 5) : m__law_rises [TN S, TN row] = ret (.int ((ri 1 0 S row : Nat) : Int)) := by
  obtain ⟨h1, h2⟩ := P58.rwF_row h
  have hp : 0 < S.length := List.length_pos_iff.mpr hS
  rw [P58.ri_rp h1 hS]
  have hs : ∀ k, k < S.length → S.getD k 0 ≤ 7 := fun k hk => (hx _ (getD_mem hk)).2
  have lp := loopN (a := 0) (m := row.length - 1) (it := itR1 (b2 dSub (bA aLen (aC (vw 1) aN)) (cst (.int 1)))) (b := gN 3) (body := b__law_rises_1) (fun k => [.d (TN S), .d (TN row), .d (.int ((rp S row k : Nat) : Int)), .un])
    (by
      simp only [itR1, run_r, seq_r, cont_nx, cont_rt, cont_bk, cont_ct, if_r, sel_t, sel_f, ife_r, sele_t, sele_f, and_r, or_r, sela_t, sela_f, selo_t, selo_f, out_rt, out_rtl, out_rtO, out_nx, setD, setO, retS, retO, retV, retN, nilS, fgt, isB, truB, truD, notB, orV, andV, notV, b1, b2, bA, aC, aN, vr, vw, cst, nth, sset, bnd_r, opt_s, cond_true, cond_false, eTup_0, eTup_1, eTup_2, eTup_3, eLst_0, eLst_1, eLst_2, eLst_3, callE, mkE, List.replicate_succ, List.replicate_zero, List.length_cons, List.length_nil, List.length_map, if_true, if_false, Nat.reduceAdd, Nat.reduceSub, Bool.false_and, Bool.and_true, Bool.true_and, Bool.and_false, Bool.not_true, Bool.not_false, Bool.true_or, Bool.or_true, Bool.false_or, Bool.or_false, reduceIte, Bool.false_eq_true, dGt, dLt, dGe, dLe, dCmp, dSub, dNeg, aLen, seqD_tup, seqD_lst, seqD_T, Option.map_some, dIsN, dNotN, isNonD_non, isNonD_bl, isNonD_int, isNonD_str, isNonD_tup, isNonD_lst, isNonD_T, forL_nil, forL_cons, loop_nx, loop_ct, loop_bk, loop_rt, frzS, frzE, appS, parS, dSub_ii]
      unfold TN
      simp only [seqD_T, run_r, seq_r, cont_nx, cont_rt, cont_bk, cont_ct, if_r, sel_t, sel_f, ife_r, sele_t, sele_f, and_r, or_r, sela_t, sela_f, selo_t, selo_f, out_rt, out_rtl, out_rtO, out_nx, setD, setO, retS, retO, retV, retN, nilS, fgt, isB, truB, truD, notB, orV, andV, notV, b1, b2, bA, aC, aN, vr, vw, cst, nth, sset, bnd_r, opt_s, cond_true, cond_false, eTup_0, eTup_1, eTup_2, eTup_3, eLst_0, eLst_1, eLst_2, eLst_3, callE, mkE, List.replicate_succ, List.replicate_zero, List.length_cons, List.length_nil, List.length_map, if_true, if_false, Nat.reduceAdd, Nat.reduceSub, Bool.false_and, Bool.and_true, Bool.true_and, Bool.and_false, Bool.not_true, Bool.not_false, Bool.true_or, Bool.or_true, Bool.false_or, Bool.or_false, reduceIte, Bool.false_eq_true, dGt, dLt, dGe, dLe, dCmp, dSub, dNeg, aLen, seqD_tup, seqD_lst, seqD_T, Option.map_some, dIsN, dNotN, isNonD_non, isNonD_bl, isNonD_int, isNonD_str, isNonD_tup, isNonD_lst, isNonD_T, forL_nil, forL_cons, loop_nx, loop_ct, loop_bk, loop_rt, frzS, frzE, appS, parS, dSub_ii, sI_len]
      rw [show (row.length : Int) - 1 = ((row.length - 1 : Nat) : Int) by omega, rg1_rng (by omega), opt_s])
    fun k hk => ⟨_, rfl, by
      rw [Int.zero_add]
      have x1 := ixN (r := row) (k := k) (by omega)
      have x2 := ixN (r := row) (k := k + 1) (by omega)
      have x3 := ixN (r := S) (k := k) (by omega)
      have x4 := ixN (r := S) (k := k + 1) (by omega)
      rw [show ((k + 1 : Nat) : Int) = (k : Int) + 1 by omega] at x2 x4
      have q1 := h2 k (by omega)
      have q2_ := h2 (k + 1) (by omega)
      have q3 := hs k (by omega)
      have q4 := hs (k + 1) (by omega)
      have m1 := mulN (a := row.getD k 0) (b := S.getD (k + 1) 0) (by omega)
      have m2 := mulN (a := row.getD (k + 1) 0) (b := S.getD k 0) (by omega)
      unfold b__law_rises_1
      simp only [run_r, seq_r, cont_nx, cont_rt, cont_bk, cont_ct, if_r, sel_t, sel_f, ife_r, sele_t, sele_f, and_r, or_r, sela_t, sela_f, selo_t, selo_f, out_rt, out_rtl, out_rtO, out_nx, setD, setO, retS, retO, retV, retN, nilS, fgt, isB, truB, truD, notB, orV, andV, notV, b1, b2, bA, aC, aN, vr, vw, cst, nth, sset, bnd_r, opt_s, cond_true, cond_false, eTup_0, eTup_1, eTup_2, eTup_3, eLst_0, eLst_1, eLst_2, eLst_3, callE, mkE, List.replicate_succ, List.replicate_zero, List.length_cons, List.length_nil, List.length_map, if_true, if_false, Nat.reduceAdd, Nat.reduceSub, Bool.false_and, Bool.and_true, Bool.true_and, Bool.and_false, Bool.not_true, Bool.not_false, Bool.true_or, Bool.or_true, Bool.false_or, Bool.or_false, reduceIte, Bool.false_eq_true, dGt, dLt, dGe, dLe, dCmp, dSub, dNeg, aLen, seqD_tup, seqD_lst, seqD_T, Option.map_some, dIsN, dNotN, isNonD_non, isNonD_bl, isNonD_int, isNonD_str, isNonD_tup, isNonD_lst, isNonD_T, forL_nil, forL_cons, loop_nx, loop_ct, loop_bk, loop_rt, frzS, frzE, appS, parS, dAdd_ii, x1, x2, x3, x4, m1, m2, aInt_b, asc_int, rp, Int.natCast_add]⟩
  have x0 := ixN (r := row) (k := 0) (by omega)
  have x0 : dIx (TN row) (.int 0) = some (.int ((row.getD 0 0 : Nat) : Int)) := x0
  have e0 : (if decide (((row.getD 0 0 : Nat) : Int) > 0) = true then (1 : Int) else 0) = ((rp S row 0 : Nat) : Int) := by
    unfold rp asc
    by_cases h : 0 < row.getD 0 0
    · rw [if_pos (by rw [decide_eq_true_eq]; omega), if_pos (by omega)]; rfl
    · rw [if_neg (by rw [decide_eq_true_eq]; omega), if_neg (by omega)]; rfl
  unfold m__law_rises
  simp only [run_r, seq_r, cont_nx, cont_rt, cont_bk, cont_ct, if_r, sel_t, sel_f, ife_r, sele_t, sele_f, and_r, or_r, sela_t, sela_f, selo_t, selo_f, out_rt, out_rtl, out_rtO, out_nx, setD, setO, retS, retO, retV, retN, nilS, fgt, isB, truB, truD, notB, orV, andV, notV, b1, b2, bA, aC, aN, vr, vw, cst, nth, sset, bnd_r, opt_s, cond_true, cond_false, eTup_0, eTup_1, eTup_2, eTup_3, eLst_0, eLst_1, eLst_2, eLst_3, callE, mkE, List.replicate_succ, List.replicate_zero, List.length_cons, List.length_nil, List.length_map, if_true, if_false, Nat.reduceAdd, Nat.reduceSub, Bool.false_and, Bool.and_true, Bool.true_and, Bool.and_false, Bool.not_true, Bool.not_false, Bool.true_or, Bool.or_true, Bool.false_or, Bool.or_false, reduceIte, Bool.false_eq_true, dGt, dLt, dGe, dLe, dCmp, dSub, dNeg, aLen, seqD_tup, seqD_lst, seqD_T, Option.map_some, dIsN, dNotN, isNonD_non, isNonD_bl, isNonD_int, isNonD_str, isNonD_tup, isNonD_lst, isNonD_T, forL_nil, forL_cons, loop_nx, loop_ct, loop_bk, loop_rt, frzS, frzE, appS, parS, x0, aInt_b]
  rw [e0]
  simp only [run_r, seq_r, cont_nx, cont_rt, cont_bk, cont_ct, if_r, sel_t, sel_f, ife_r, sele_t, sele_f, and_r, or_r, sela_t, sela_f, selo_t, selo_f, out_rt, out_rtl, out_rtO, out_nx, setD, setO, retS, retO, retV, retN, nilS, fgt, isB, truB, truD, notB, orV, andV, notV, b1, b2, bA, aC, aN, vr, vw, cst, nth, sset, bnd_r, opt_s, cond_true, cond_false, eTup_0, eTup_1, eTup_2, eTup_3, eLst_0, eLst_1, eLst_2, eLst_3, callE, mkE, List.replicate_succ, List.replicate_zero, List.length_cons, List.length_nil, List.length_map, if_true, if_false, Nat.reduceAdd, Nat.reduceSub, Bool.false_and, Bool.and_true, Bool.true_and, Bool.and_false, Bool.not_true, Bool.not_false, Bool.true_or, Bool.or_true, Bool.false_or, Bool.or_false, reduceIte, Bool.false_eq_true, dGt, dLt, dGe, dLe, dCmp, dSub, dNeg, aLen, seqD_tup, seqD_lst, seqD_T, Option.map_some, dIsN, dNotN, isNonD_non, isNonD_bl, isNonD_int, isNonD_str, isNonD_tup, isNonD_lst, isNonD_T, forL_nil, forL_cons, loop_nx, loop_ct, loop_bk, loop_rt, frzS, frzE, appS, parS, lp]
theorem rises_eq (h : row ∈ rwF S) (hS : S ≠ []) (hx : ∀ x ∈ S, 1 ≤ x ∧ x ≤ 7) (hl : S.length ≤ 5) : m_rises [TN S, TN row] = ret (.int ((ri 1 0 S row : Nat) : Int)) := by
  obtain ⟨h1, h2⟩ := P58.rwF_row h
  have hp : 0 < S.length := List.length_pos_iff.mpr hS
  have hs : ∀ k, k < S.length → S.getD k 0 ≤ 7 := fun k hk => (hx _ (getD_mem hk)).2
  let c : Nat → Bool := fun k => decide (row.getD k 0 * S.getD (k + 1) 0 < row.getD (k + 1) 0 * S.getD k 0)
  have hc : ∀ z : SV, c_rises_1 [.d (TN S), .d (TN row), z, .un] = ret (.lst (((List.range (row.length - 1)).filter c).map fun _ => D.int 1)) := fun z => by
    unfold c_rises_1
    refine lcFil (fun k : Nat => D.int (k : Int)) c (fun _ => D.int 1) (List.range (row.length - 1)) (by
      simp only [itR1, run_r, seq_r, cont_nx, cont_rt, cont_bk, cont_ct, if_r, sel_t, sel_f, ife_r, sele_t, sele_f, and_r, or_r, sela_t, sela_f, selo_t, selo_f, out_rt, out_rtl, out_rtO, out_nx, setD, setO, retS, retO, retV, retN, nilS, fgt, isB, truB, truD, notB, orV, andV, notV, b1, b2, bA, aC, aN, vr, vw, cst, nth, sset, bnd_r, opt_s, cond_true, cond_false, eTup_0, eTup_1, eTup_2, eTup_3, eLst_0, eLst_1, eLst_2, eLst_3, callE, mkE, List.replicate_succ, List.replicate_zero, List.length_cons, List.length_nil, List.length_map, if_true, if_false, Nat.reduceAdd, Nat.reduceSub, Bool.false_and, Bool.and_true, Bool.true_and, Bool.and_false, Bool.not_true, Bool.not_false, Bool.true_or, Bool.or_true, Bool.false_or, Bool.or_false, reduceIte, Bool.false_eq_true, dGt, dLt, dGe, dLe, dCmp, dSub, dNeg, aLen, seqD_tup, seqD_lst, seqD_T, Option.map_some, dIsN, dNotN, isNonD_non, isNonD_bl, isNonD_int, isNonD_str, isNonD_tup, isNonD_lst, isNonD_T, forL_nil, forL_cons, loop_nx, loop_ct, loop_bk, loop_rt, frzS, frzE, appS, parS, dSub_ii]
      unfold TN
      simp only [seqD_T, run_r, seq_r, cont_nx, cont_rt, cont_bk, cont_ct, if_r, sel_t, sel_f, ife_r, sele_t, sele_f, and_r, or_r, sela_t, sela_f, selo_t, selo_f, out_rt, out_rtl, out_rtO, out_nx, setD, setO, retS, retO, retV, retN, nilS, fgt, isB, truB, truD, notB, orV, andV, notV, b1, b2, bA, aC, aN, vr, vw, cst, nth, sset, bnd_r, opt_s, cond_true, cond_false, eTup_0, eTup_1, eTup_2, eTup_3, eLst_0, eLst_1, eLst_2, eLst_3, callE, mkE, List.replicate_succ, List.replicate_zero, List.length_cons, List.length_nil, List.length_map, if_true, if_false, Nat.reduceAdd, Nat.reduceSub, Bool.false_and, Bool.and_true, Bool.true_and, Bool.and_false, Bool.not_true, Bool.not_false, Bool.true_or, Bool.or_true, Bool.false_or, Bool.or_false, reduceIte, Bool.false_eq_true, dGt, dLt, dGe, dLe, dCmp, dSub, dNeg, aLen, seqD_tup, seqD_lst, seqD_T, Option.map_some, dIsN, dNotN, isNonD_non, isNonD_bl, isNonD_int, isNonD_str, isNonD_tup, isNonD_lst, isNonD_T, forL_nil, forL_cons, loop_nx, loop_ct, loop_bk, loop_rt, frzS, frzE, appS, parS, dSub_ii, sI_len]
      rw [show (row.length : Int) - 1 = ((row.length - 1 : Nat) : Int) by omega, rg1_nat (by omega), opt_s]) (by rw [List.length_range]; omega) fun k hk => ⟨_, rfl, ?_, fun _ => by simp only [run_r, seq_r, cont_nx, cont_rt, cont_bk, cont_ct, if_r, sel_t, sel_f, ife_r, sele_t, sele_f, and_r, or_r, sela_t, sela_f, selo_t, selo_f, out_rt, out_rtl, out_rtO, out_nx, setD, setO, retS, retO, retV, retN, nilS, fgt, isB, truB, truD, notB, orV, andV, notV, b1, b2, bA, aC, aN, vr, vw, cst, nth, sset, bnd_r, opt_s, cond_true, cond_false, eTup_0, eTup_1, eTup_2, eTup_3, eLst_0, eLst_1, eLst_2, eLst_3, callE, mkE, List.replicate_succ, List.replicate_zero, List.length_cons, List.length_nil, List.length_map, if_true, if_false, Nat.reduceAdd, Nat.reduceSub, Bool.false_and, Bool.and_true, Bool.true_and, Bool.and_false, Bool.not_true, Bool.not_false, Bool.true_or, Bool.or_true, Bool.false_or, Bool.or_false, reduceIte, Bool.false_eq_true, dGt, dLt, dGe, dLe, dCmp, dSub, dNeg, aLen, seqD_tup, seqD_lst, seqD_T, Option.map_some, dIsN, dNotN, isNonD_non, isNonD_bl, isNonD_int, isNonD_str, isNonD_tup, isNonD_lst, isNonD_T, forL_nil, forL_cons, loop_nx, loop_ct, loop_bk, loop_rt, frzS, frzE, appS, parS]⟩
    have hk := List.mem_range.mp hk
    have x1 := ixN (r := row) (k := k) (by omega)
    have x2 := ixN (r := row) (k := k + 1) (by omega)
    have x3 := ixN (r := S) (k := k) (by omega)
    have x4 := ixN (r := S) (k := k + 1) (by omega)
    rw [show ((k + 1 : Nat) : Int) = (k : Int) + 1 by omega] at x2 x4
    have q1 := h2 k (by omega)
    have q2_ := h2 (k + 1) (by omega)
    have q3 := hs k (by omega)
    have q4 := hs (k + 1) (by omega)
    have m1 := mulN (a := row.getD k 0) (b := S.getD (k + 1) 0) (by omega)
    have m2 := mulN (a := row.getD (k + 1) 0) (b := S.getD k 0) (by omega)
    have e : decide (((row.getD k 0 * S.getD (k + 1) 0 : Nat) : Int) < ((row.getD (k + 1) 0 * S.getD k 0 : Nat) : Int)) = c k := by
      show _ = decide _
      by_cases g : row.getD k 0 * S.getD (k + 1) 0 < row.getD (k + 1) 0 * S.getD k 0
      · rw [decide_eq_true g, decide_eq_true (by omega)]
      · rw [decide_eq_false g, decide_eq_false (by omega)]
    simp only [run_r, seq_r, cont_nx, cont_rt, cont_bk, cont_ct, if_r, sel_t, sel_f, ife_r, sele_t, sele_f, and_r, or_r, sela_t, sela_f, selo_t, selo_f, out_rt, out_rtl, out_rtO, out_nx, setD, setO, retS, retO, retV, retN, nilS, fgt, isB, truB, truD, notB, orV, andV, notV, b1, b2, bA, aC, aN, vr, vw, cst, nth, sset, bnd_r, opt_s, cond_true, cond_false, eTup_0, eTup_1, eTup_2, eTup_3, eLst_0, eLst_1, eLst_2, eLst_3, callE, mkE, List.replicate_succ, List.replicate_zero, List.length_cons, List.length_nil, List.length_map, if_true, if_false, Nat.reduceAdd, Nat.reduceSub, Bool.false_and, Bool.and_true, Bool.true_and, Bool.and_false, Bool.not_true, Bool.not_false, Bool.true_or, Bool.or_true, Bool.false_or, Bool.or_false, reduceIte, Bool.false_eq_true, dGt, dLt, dGe, dLe, dCmp, dSub, dNeg, aLen, seqD_tup, seqD_lst, seqD_T, Option.map_some, dIsN, dNotN, isNonD_non, isNonD_bl, isNonD_int, isNonD_str, isNonD_tup, isNonD_lst, isNonD_T, forL_nil, forL_cons, loop_nx, loop_ct, loop_bk, loop_rt, frzS, frzE, appS, parS, dAdd_ii, x1, x2, x3, x4, m1, m2, e]
  have hn : ∀ n, ((List.range n).filter c).length = rq S row n := by
    intro n
    induction n with
    | zero => rfl
    | succ n ih =>
      rw [List.range_succ, List.filter_append, List.length_append, ih, rq]
      congr 1
      unfold asc
      by_cases g : row.getD n 0 * S.getD (n + 1) 0 < row.getD (n + 1) 0 * S.getD n 0
      · rw [if_pos g, List.filter_cons, if_pos (decide_eq_true g)]; rfl
      · rw [if_neg g, List.filter_cons, if_neg (by show ¬ (decide _ = true); rw [decide_eq_true_eq]; exact g)]; rfl
  have x0 := ixN (r := row) (k := 0) (by omega)
  have x0 : dIx (TN row) (.int 0) = some (.int ((row.getD 0 0 : Nat) : Int)) := x0
  rw [P58.ri_rp h1 hS, P58.rp_rq, ← hn]
  have hlen : ∀ z : SV, (bA aLen (aC c_rises_1 aN)) [.d (TN S), .d (TN row), z, .un] = ret (.int (((List.range (row.length - 1)).filter c).length : Nat)) := fun z => by
    simp only [run_r, seq_r, cont_nx, cont_rt, cont_bk, cont_ct, if_r, sel_t, sel_f, ife_r, sele_t, sele_f, and_r, or_r, sela_t, sela_f, selo_t, selo_f, out_rt, out_rtl, out_rtO, out_nx, setD, setO, retS, retO, retV, retN, nilS, fgt, isB, truB, truD, notB, orV, andV, notV, b1, b2, bA, aC, aN, vr, vw, cst, nth, sset, bnd_r, opt_s, cond_true, cond_false, eTup_0, eTup_1, eTup_2, eTup_3, eLst_0, eLst_1, eLst_2, eLst_3, callE, mkE, List.replicate_succ, List.replicate_zero, List.length_cons, List.length_nil, List.length_map, if_true, if_false, Nat.reduceAdd, Nat.reduceSub, Bool.false_and, Bool.and_true, Bool.true_and, Bool.and_false, Bool.not_true, Bool.not_false, Bool.true_or, Bool.or_true, Bool.false_or, Bool.or_false, reduceIte, Bool.false_eq_true, dGt, dLt, dGe, dLe, dCmp, dSub, dNeg, aLen, seqD_tup, seqD_lst, seqD_T, Option.map_some, dIsN, dNotN, isNonD_non, isNonD_bl, isNonD_int, isNonD_str, isNonD_tup, isNonD_lst, isNonD_T, forL_nil, forL_cons, loop_nx, loop_ct, loop_bk, loop_rt, frzS, frzE, appS, parS, hc]
  unfold m_rises
  by_cases g : 0 < row.getD 0 0
  · have g' : (((row.getD 0 0 : Nat) : Int) > 0) := by omega
    have e : asc 1 (S.getD 0 0) 0 (row.getD 0 0) = 1 := if_pos (by omega)
    rw [e]
    have hl1 := hc (.d (.int 1))
    simp only [run_r, seq_r, cont_nx, cont_rt, cont_bk, cont_ct, if_r, sel_t, sel_f, ife_r, sele_t, sele_f, and_r, or_r, sela_t, sela_f, selo_t, selo_f, out_rt, out_rtl, out_rtO, out_nx, setD, setO, retS, retO, retV, retN, nilS, fgt, isB, truB, truD, notB, orV, andV, notV, b1, b2, bA, aC, aN, vr, vw, cst, nth, sset, bnd_r, opt_s, cond_true, cond_false, eTup_0, eTup_1, eTup_2, eTup_3, eLst_0, eLst_1, eLst_2, eLst_3, callE, mkE, List.replicate_succ, List.replicate_zero, List.length_cons, List.length_nil, List.length_map, if_true, if_false, Nat.reduceAdd, Nat.reduceSub, Bool.false_and, Bool.and_true, Bool.true_and, Bool.and_false, Bool.not_true, Bool.not_false, Bool.true_or, Bool.or_true, Bool.false_or, Bool.or_false, reduceIte, Bool.false_eq_true, dGt, dLt, dGe, dLe, dCmp, dSub, dNeg, aLen, seqD_tup, seqD_lst, seqD_T, Option.map_some, dIsN, dNotN, isNonD_non, isNonD_bl, isNonD_int, isNonD_str, isNonD_tup, isNonD_lst, isNonD_T, forL_nil, forL_cons, loop_nx, loop_ct, loop_bk, loop_rt, frzS, frzE, appS, parS, x0, g', decide_true, hl1, dAdd_ii, Int.natCast_add]
    rfl
  · have g' : ¬ (((row.getD 0 0 : Nat) : Int) > 0) := by omega
    have e : asc 1 (S.getD 0 0) 0 (row.getD 0 0) = 0 := if_neg (by omega)
    rw [e]
    have hl1 := hc (.d (.int 0))
    simp only [run_r, seq_r, cont_nx, cont_rt, cont_bk, cont_ct, if_r, sel_t, sel_f, ife_r, sele_t, sele_f, and_r, or_r, sela_t, sela_f, selo_t, selo_f, out_rt, out_rtl, out_rtO, out_nx, setD, setO, retS, retO, retV, retN, nilS, fgt, isB, truB, truD, notB, orV, andV, notV, b1, b2, bA, aC, aN, vr, vw, cst, nth, sset, bnd_r, opt_s, cond_true, cond_false, eTup_0, eTup_1, eTup_2, eTup_3, eLst_0, eLst_1, eLst_2, eLst_3, callE, mkE, List.replicate_succ, List.replicate_zero, List.length_cons, List.length_nil, List.length_map, if_true, if_false, Nat.reduceAdd, Nat.reduceSub, Bool.false_and, Bool.and_true, Bool.true_and, Bool.and_false, Bool.not_true, Bool.not_false, Bool.true_or, Bool.or_true, Bool.false_or, Bool.or_false, reduceIte, Bool.false_eq_true, dGt, dLt, dGe, dLe, dCmp, dSub, dNeg, aLen, seqD_tup, seqD_lst, seqD_T, Option.map_some, dIsN, dNotN, isNonD_non, isNonD_bl, isNonD_int, isNonD_str, isNonD_tup, isNonD_lst, isNonD_T, forL_nil, forL_cons, loop_nx, loop_ct, loop_bk, loop_rt, frzS, frzE, appS, parS, x0, g', decide_false, hl1, dAdd_ii, Int.natCast_add]
    rfl
end
end K58
end
section
set_option maxHeartbeats 1000000
/-! LbV: tables divided by 1 - x^m in a loop; tuples of ranges; remainders. -/
namespace LbV
open PySem PySem.Spec PyProof.Rows L2 FL Lb
theorem v_val {m t : Nat} {f : Nat → Int} (hm : 1 ≤ m) (h1 : m ≤ t) : mixU m t f (PS.V m f) t + mixU m t f (PS.V m f) (t - m) = PS.V m f t := by
  rw [mixU_hi (Nat.le_refl _), PS.V_eq (by omega), if_pos h1]
  by_cases h3 : m ≤ t - m
  · rw [mixU_in h3 (by omega)]
  · rw [mixU_lo (by omega), PS.v_low m f (by omega)]
theorem v_fin {m N : Nat} {f : Nat → Int} : tab N (mixU m N f (PS.V m f)) = tab N (PS.V m f) := tab_congr fun i hi => by
  by_cases h : m ≤ i
  · rw [mixU_in h hi]
  · rw [mixU_lo (by omega), PS.v_low m f (by omega)]
theorem tupR_eq {f g : EF} {ρ : FL.Env} {s : Nat} (hf : f ρ = ret (.int 1)) (hg : g ρ = ret (.int ((s : Int) + 1))) (hs : s ≤ 1000) : tupR2 f g ρ = ret (T (rng 1 s)) := by
  unfold FL.tupR2
  rw [hf, bnd_r, hg, bnd_r, lr2_rng (by omega) (by omega) (by omega) (by omega), show ((s : Int) + 1 - 1).toNat = s by omega, Option.map_some, opt_s]; rfl
theorem dNotIn2 (x a b : Int) : dNotInA (.int x) (.tup [.int a, .int b]) = some (.bl (!(decide (x = a) || decide (x = b)))) := by
  show some (D.bl (!([a, b].any fun n => n == x))) = _
  simp only [List.any_cons, List.any_nil, Bool.or_false]
  rw [show (a == x) = decide (x = a) by rw [Bool.eq_iff_iff]; simp; exact eq_comm, show (b == x) = decide (x = b) by rw [Bool.eq_iff_iff]; simp; exact eq_comm]
theorem dIn_T (x : Int) (R : List Int) : dInA (.int x) (T R) = some (.bl (R.any fun n => n == x)) := by
  show (intsOf (R.map D.int)).map (fun ns => D.bl (ns.any fun n => n == x)) = _
  rw [intsOf_map]; rfl
theorem dIn_L (x : Int) (R : List Int) : dInA (.int x) (.lst (R.map .int)) = some (.bl (R.any fun n => n == x)) := by
  show (if (okd 60 (.int x) && okd 60 (.lst (R.map D.int))) = true then some (D.bl (inD (.int x) (R.map D.int))) else none) = _
  rw [okdI, if_pos (by rfl)]
  congr 2
  unfold inD
  rw [List.any_map]
  rfl
theorem any_eq (x : Int) (R : List Int) : (R.any fun n => n == x) = decide (x ∈ R) := by
  rw [Bool.eq_iff_iff]; simp [List.any_eq_true]
theorem gdT {L : List Int} {k : Nat} (h : L.length < 1000000) : gd (k + 1) (T L) = true := by
  simp only [gd, T, Bool.and_eq_true, decide_eq_true_eq, List.length_map, sizeLine_eq, List.all_map, List.all_eq_true]
  exact ⟨fun _ _ => by cases k <;> rfl, by omega⟩
theorem gdT2 {a : D} {L : List Int} (ha : gd 58 a = true) (h : L.length < 1000000) : gd 59 (.tup [a, T L]) = true := by
  have := gdT (k := 57) h
  simp only [gd, Bool.and_eq_true, decide_eq_true_eq, List.length_cons, List.length_nil, sizeLine_eq, List.all_cons, List.all_nil, ha, true_and, and_true]
  exact ⟨this, by omega⟩
end LbV
end
section
set_option maxHeartbeats 1000000
namespace K58
open PySem PySem.Spec PyProof.Rows L2 FL Lb LbD
open P59 (asc up1)
open P58 (ext rwF ri rp rq)
open K59 (sI sI_len sI_ix tl dl)
def insO (k : Nat) (r : List Nat) : List (List Nat) := (List.range (k + 1)).map fun j => (r.take j ++ [k]) ++ r.drop j
def ordN (n : Nat) : List (List Nat) := (List.range n).foldl (fun C k => C.flatMap (insO k)) [[]]
def fl (n : Nat) (o : List Nat) : Nat := ((List.range (n - 1)).filter fun k => decide (o.getD (k + 1) 0 < o.getD k 0)).length
def eu (n m : Nat) : Int := ((ordN n).map fun o => dl m (fl n o)).sum
theorem ord_ck : (List.range 6).all (fun n => Nat.ble (ordN n).length 120 && (ordN n).all fun o => o.length == n) = true := by decide +kernel
theorem ord_ok {n : Nat} (h : n ≤ 5) : (ordN n).length ≤ 120 ∧ ∀ o ∈ ordN n, o.length = n := by
  have := List.all_eq_true.mp ord_ck n (List.mem_range.mpr (by omega))
  rw [Bool.and_eq_true] at this
  exact ⟨Nat.le_of_ble_eq_true this.1, fun o ho => beq_iff_eq.mp (List.all_eq_true.mp this.2 o ho)⟩
theorem eu_ck : (List.range 6).all (fun n => (List.range (n + 1)).all fun m => n == 0 || decide (eu n m = tl (up1 n) m)) = true := by decide +kernel
theorem eu_ok {n m : Nat} (h1 : 1 ≤ n) (h : n ≤ 5) (hm : m ≤ n) : eu n m = tl (up1 n) m := by
  have := List.all_eq_true.mp (List.all_eq_true.mp eu_ck n (List.mem_range.mpr (by omega))) m (List.mem_range.mpr (by omega))
  rw [Bool.or_eq_true] at this
  rcases this with e | e
  · have := beq_iff_eq.mp e; omega
  · exact of_decide_eq_true e
theorem mir_ck : (List.range 6).all (fun n => decide (((List.range n).map (tl (up1 n))).reverse = (List.range n).map (tl (up1 n)))) = true := by decide +kernel
theorem mir_ok {n : Nat} (h : n ≤ 5) : ((List.range n).map (tl (up1 n))).reverse = (List.range n).map (tl (up1 n)) := of_decide_eq_true (List.all_eq_true.mp mir_ck n (List.mem_range.mpr (by omega)))
theorem ordN_succ (n : Nat) : ordN (n + 1) = (ordN n).flatMap (insO n) := by unfold ordN; rw [List.range_succ, List.foldl_append]; rfl
theorem ins_eq {k : Nat} {r : List Nat} {a b c : SV} (hk : k ≤ 50) (hr : r.length ≤ 50) : c__law_orders_1 [a, b, .d (.int (k : Int)), c, .d (TN r), .un] = ret (Cd (insO k r)) := by
  unfold c__law_orders_1 Cd insO
  rw [List.map_map]
  refine lcE_map (fun j : Nat => D.int (j : Int)) _ (List.range (k + 1)) (by
    simp only [itR1, run_r, seq_r, cont_nx, cont_rt, cont_bk, cont_ct, if_r, sel_t, sel_f, ife_r, sele_t, sele_f, and_r, or_r, sela_t, sela_f, selo_t, selo_f, out_rt, out_rtl, out_rtO, out_nx, setD, setO, retS, retO, retV, retN, nilS, fgt, isB, truB, truD, notB, orV, andV, notV, b1, b2, bA, aC, aN, vr, vw, cst, nth, sset, bnd_r, opt_s, cond_true, cond_false, eTup_0, eTup_1, eTup_2, eTup_3, eLst_0, eLst_1, eLst_2, eLst_3, callE, mkE, List.replicate_succ, List.replicate_zero, List.length_cons, List.length_nil, List.length_map, if_true, if_false, Nat.reduceAdd, Nat.reduceSub, Bool.false_and, Bool.and_true, Bool.true_and, Bool.and_false, Bool.not_true, Bool.not_false, Bool.true_or, Bool.or_true, Bool.false_or, Bool.or_false, reduceIte, Bool.false_eq_true, dGt, dLt, dGe, dLe, dCmp, dSub, dNeg, aLen, seqD_tup, seqD_lst, seqD_T, Option.map_some, dIsN, dNotN, isNonD_non, isNonD_bl, isNonD_int, isNonD_str, isNonD_tup, isNonD_lst, isNonD_T, forL_nil, forL_cons, loop_nx, loop_ct, loop_bk, loop_rt, frzS, frzE, appS, parS, dAdd_ii]
    rw [show (k : Int) + 1 = ((k + 1 : Nat) : Int) by omega, rg1_nat (by omega), opt_s]) (by rw [List.length_range, sizeLine_eq]; omega) fun j hj => ⟨_, rfl, ?_⟩
  have s1 : dSl (TN r) none (some (j : Int)) = some (TN (r.take j)) := by
    unfold TN sI; rw [slT_to, List.map_take]
  have s2 : dSl (TN r) (some (j : Int)) none = some (TN (r.drop j)) := by
    unfold TN sI; rw [slT_from, List.map_drop]
  have a1 := dAdd_TN (r := r.take j) (m := k) (by rw [List.length_take]; omega)
  have a2 : dAdd (TN (r.take j ++ [k])) (TN (r.drop j)) = some (TN ((r.take j ++ [k]) ++ r.drop j)) := by
    have h2 := dAdd_TT (p := sI (r.take j ++ [k])) (q := sI (r.drop j)) (by rw [sI_len, sI_len, List.length_append, List.length_take, List.length_drop, List.length_singleton]; omega)
    have e : sI (r.take j ++ [k]) ++ sI (r.drop j) = sI ((r.take j ++ [k]) ++ r.drop j) := by unfold sI; rw [← List.map_append]
    rw [e] at h2
    exact h2
  simp only [run_r, seq_r, cont_nx, cont_rt, cont_bk, cont_ct, if_r, sel_t, sel_f, ife_r, sele_t, sele_f, and_r, or_r, sela_t, sela_f, selo_t, selo_f, out_rt, out_rtl, out_rtO, out_nx, setD, setO, retS, retO, retV, retN, nilS, fgt, isB, truB, truD, notB, orV, andV, notV, b1, b2, bA, aC, aN, vr, vw, cst, nth, sset, bnd_r, opt_s, cond_true, cond_false, eTup_0, eTup_1, eTup_2, eTup_3, eLst_0, eLst_1, eLst_2, eLst_3, callE, mkE, List.replicate_succ, List.replicate_zero, List.length_cons, List.length_nil, List.length_map, if_true, if_false, Nat.reduceAdd, Nat.reduceSub, Bool.false_and, Bool.and_true, Bool.true_and, Bool.and_false, Bool.not_true, Bool.not_false, Bool.true_or, Bool.or_true, Bool.false_or, Bool.or_false, reduceIte, Bool.false_eq_true, dGt, dLt, dGe, dLe, dCmp, dSub, dNeg, aLen, seqD_tup, seqD_lst, seqD_T, Option.map_some, dIsN, dNotN, isNonD_non, isNonD_bl, isNonD_int, isNonD_str, isNonD_tup, isNonD_lst, isNonD_T, forL_nil, forL_cons, loop_nx, loop_ct, loop_bk, loop_rt, frzS, frzE, appS, parS, slE, oS, oN, s1, s2, a1, a2]
  rfl
theorem orders_eq {n : Nat} (hn : n ≤ 5) : m__law_orders [.int (n : Int)] = ret (Cd (ordN n)) := by
  have lp := loopN (a := 0) (m := n) (it := itR1 (vw 0)) (b := gN 2) (body := b__law_orders_2) (fun i => [.d (.int (n : Int)), .d (Cd (ordN i)), .un, .un, .un, .un])
    (by
      simp only [itR1, run_r, seq_r, cont_nx, cont_rt, cont_bk, cont_ct, if_r, sel_t, sel_f, ife_r, sele_t, sele_f, and_r, or_r, sela_t, sela_f, selo_t, selo_f, out_rt, out_rtl, out_rtO, out_nx, setD, setO, retS, retO, retV, retN, nilS, fgt, isB, truB, truD, notB, orV, andV, notV, b1, b2, bA, aC, aN, vr, vw, cst, nth, sset, bnd_r, opt_s, cond_true, cond_false, eTup_0, eTup_1, eTup_2, eTup_3, eLst_0, eLst_1, eLst_2, eLst_3, callE, mkE, List.replicate_succ, List.replicate_zero, List.length_cons, List.length_nil, List.length_map, if_true, if_false, Nat.reduceAdd, Nat.reduceSub, Bool.false_and, Bool.and_true, Bool.true_and, Bool.and_false, Bool.not_true, Bool.not_false, Bool.true_or, Bool.or_true, Bool.false_or, Bool.or_false, reduceIte, Bool.false_eq_true, dGt, dLt, dGe, dLe, dCmp, dSub, dNeg, aLen, seqD_tup, seqD_lst, seqD_T, Option.map_some, dIsN, dNotN, isNonD_non, isNonD_bl, isNonD_int, isNonD_str, isNonD_tup, isNonD_lst, isNonD_T, forL_nil, forL_cons, loop_nx, loop_ct, loop_bk, loop_rt, frzS, frzE, appS, parS]
      rw [rg1_rng (by omega), opt_s])
    fun k hk => ⟨_, rfl, by
      rw [Int.zero_add]
      have o1 := ord_ok (n := k) (by omega)
      have o2 := ord_ok (n := k + 1) (by omega)
      rw [ordN_succ] at o2 ⊢
      have inn := loopAcc (it := itS (vr 1)) (b := gN 4) (body := b__law_orders_1) (fun acc => [.d (.int (n : Int)), .d (Cd (ordN k)), .d (.int (k : Int)), .d (Cd acc), .un, .un]) (ordN k) TN (insO k) (by unfold Cd; simp only [itS, run_r, seq_r, cont_nx, cont_rt, cont_bk, cont_ct, if_r, sel_t, sel_f, ife_r, sele_t, sele_f, and_r, or_r, sela_t, sela_f, selo_t, selo_f, out_rt, out_rtl, out_rtO, out_nx, setD, setO, retS, retO, retV, retN, nilS, fgt, isB, truB, truD, notB, orV, andV, notV, b1, b2, bA, aC, aN, vr, vw, cst, nth, sset, bnd_r, opt_s, cond_true, cond_false, eTup_0, eTup_1, eTup_2, eTup_3, eLst_0, eLst_1, eLst_2, eLst_3, callE, mkE, List.replicate_succ, List.replicate_zero, List.length_cons, List.length_nil, List.length_map, if_true, if_false, Nat.reduceAdd, Nat.reduceSub, Bool.false_and, Bool.and_true, Bool.true_and, Bool.and_false, Bool.not_true, Bool.not_false, Bool.true_or, Bool.or_true, Bool.false_or, Bool.or_false, reduceIte, Bool.false_eq_true, dGt, dLt, dGe, dLe, dCmp, dSub, dNeg, aLen, seqD_tup, seqD_lst, seqD_T, Option.map_some, dIsN, dNotN, isNonD_non, isNonD_bl, isNonD_int, isNonD_str, isNonD_tup, isNonD_lst, isNonD_T, forL_nil, forL_cons, loop_nx, loop_ct, loop_bk, loop_rt, frzS, frzE, appS, parS]) (by omega) (fun r hr acc ha => by
        refine ⟨_, rfl, ?_⟩
        have hl := o1.2 r hr
        have hc := ins_eq (k := k) (r := r) (a := .d (.int (n : Int))) (b := .d (Cd (ordN k))) (c := .d (Cd acc)) (by omega) (by omega)
        have hadd : dAdd (Cd acc) (Cd (insO k r)) = some (Cd (acc ++ insO k r)) := by
          unfold Cd
          rw [dAdd_ll (by rw [List.length_map, List.length_map]; omega), List.map_append]
        unfold b__law_orders_1
        simp only [run_r, seq_r, cont_nx, cont_rt, cont_bk, cont_ct, if_r, sel_t, sel_f, ife_r, sele_t, sele_f, and_r, or_r, sela_t, sela_f, selo_t, selo_f, out_rt, out_rtl, out_rtO, out_nx, setD, setO, retS, retO, retV, retN, nilS, fgt, isB, truB, truD, notB, orV, andV, notV, b1, b2, bA, aC, aN, vr, vw, cst, nth, sset, bnd_r, opt_s, cond_true, cond_false, eTup_0, eTup_1, eTup_2, eTup_3, eLst_0, eLst_1, eLst_2, eLst_3, callE, mkE, List.replicate_succ, List.replicate_zero, List.length_cons, List.length_nil, List.length_map, if_true, if_false, Nat.reduceAdd, Nat.reduceSub, Bool.false_and, Bool.and_true, Bool.true_and, Bool.and_false, Bool.not_true, Bool.not_false, Bool.true_or, Bool.or_true, Bool.false_or, Bool.or_false, reduceIte, Bool.false_eq_true, dGt, dLt, dGe, dLe, dCmp, dSub, dNeg, aLen, seqD_tup, seqD_lst, seqD_T, Option.map_some, dIsN, dNotN, isNonD_non, isNonD_bl, isNonD_int, isNonD_str, isNonD_tup, isNonD_lst, isNonD_T, forL_nil, forL_cons, loop_nx, loop_ct, loop_bk, loop_rt, frzS, frzE, appS, parS, hc, hadd])
      have inn : forS (itS (vr 1)) (gN 4) b__law_orders_1 [.d (.int (n : Int)), .d (Cd (ordN k)), .d (.int (k : Int)), .d (.lst []), .un, .un] = _ := inn
      unfold b__law_orders_2
      simp only [run_r, seq_r, cont_nx, cont_rt, cont_bk, cont_ct, if_r, sel_t, sel_f, ife_r, sele_t, sele_f, and_r, or_r, sela_t, sela_f, selo_t, selo_f, out_rt, out_rtl, out_rtO, out_nx, setD, setO, retS, retO, retV, retN, nilS, fgt, isB, truB, truD, notB, orV, andV, notV, b1, b2, bA, aC, aN, vr, vw, cst, nth, sset, bnd_r, opt_s, cond_true, cond_false, eTup_0, eTup_1, eTup_2, eTup_3, eLst_0, eLst_1, eLst_2, eLst_3, callE, mkE, List.replicate_succ, List.replicate_zero, List.length_cons, List.length_nil, List.length_map, if_true, if_false, Nat.reduceAdd, Nat.reduceSub, Bool.false_and, Bool.and_true, Bool.true_and, Bool.and_false, Bool.not_true, Bool.not_false, Bool.true_or, Bool.or_true, Bool.false_or, Bool.or_false, reduceIte, Bool.false_eq_true, dGt, dLt, dGe, dLe, dCmp, dSub, dNeg, aLen, seqD_tup, seqD_lst, seqD_T, Option.map_some, dIsN, dNotN, isNonD_non, isNonD_bl, isNonD_int, isNonD_str, isNonD_tup, isNonD_lst, isNonD_T, forL_nil, forL_cons, loop_nx, loop_ct, loop_bk, loop_rt, frzS, frzE, appS, parS, inn]⟩
  have lp : forS (itR1 (vw 0)) (gN 2) b__law_orders_2 [.d (.int (n : Int)), .d (.lst [.tup []]), .un, .un, .un, .un] = _ := lp
  unfold m__law_orders
  simp only [run_r, seq_r, cont_nx, cont_rt, cont_bk, cont_ct, if_r, sel_t, sel_f, ife_r, sele_t, sele_f, and_r, or_r, sela_t, sela_f, selo_t, selo_f, out_rt, out_rtl, out_rtO, out_nx, setD, setO, retS, retO, retV, retN, nilS, fgt, isB, truB, truD, notB, orV, andV, notV, b1, b2, bA, aC, aN, vr, vw, cst, nth, sset, bnd_r, opt_s, cond_true, cond_false, eTup_0, eTup_1, eTup_2, eTup_3, eLst_0, eLst_1, eLst_2, eLst_3, callE, mkE, List.replicate_succ, List.replicate_zero, List.length_cons, List.length_nil, List.length_map, if_true, if_false, Nat.reduceAdd, Nat.reduceSub, Bool.false_and, Bool.and_true, Bool.true_and, Bool.and_false, Bool.not_true, Bool.not_false, Bool.true_or, Bool.or_true, Bool.false_or, Bool.or_false, reduceIte, Bool.false_eq_true, dGt, dLt, dGe, dLe, dCmp, dSub, dNeg, aLen, seqD_tup, seqD_lst, seqD_T, Option.map_some, dIsN, dNotN, isNonD_non, isNonD_bl, isNonD_int, isNonD_str, isNonD_tup, isNonD_lst, isNonD_T, forL_nil, forL_cons, loop_nx, loop_ct, loop_bk, loop_rt, frzS, frzE, appS, parS, lp]
/-! telling -/
theorem told_fold {α : Type} (h : α → Nat) (m : Nat) : ∀ (l : List α) (f : Nat → Int), (l.foldl (fun (f : Nat → Int) (a : α) => fun i => if i = h a then f (h a) + 1 else f i) f) m = f m + (l.map fun a => dl m (h a)).sum
  | [], f => by simp
  | a :: l, f => by
    rw [List.foldl_cons, told_fold h m l, List.map_cons, List.sum_cons]
    unfold K59.dl
    by_cases e : m = h a
    · rw [if_pos e, if_pos e.symm, ← e]; omega
    · rw [if_neg e, if_neg fun z => e z.symm]; omega
theorem index_tab {n p : Nat} {f : Nat → Int} (hp : p < n) (h1 : ∀ k, k < p → f k ≤ f (k + 1)) (h2 : ∀ k, p ≤ k → k + 1 < n → f (k + 1) ≤ f k) :
    ∃ t, t < n ∧ aMax [.lst (tab n f)] = some (.int (f p)) ∧ dIndex (.lst (tab n f)) (.int (f p)) = some (.int (t : Int)) ∧ (∀ k, k < t → f k ≤ f (k + 1)) ∧ ∀ k, t ≤ k → k + 1 < n → f (k + 1) ≤ f k := by
  have up : ∀ d k, k + d = p → f k ≤ f p := by
    intro d
    induction d with
    | zero => intro k h; rw [show k = p by omega]; exact Int.le_refl _
    | succ d ih => intro k h; have := h1 k (by omega); have := ih (k + 1) (by omega); omega
  have dn : ∀ d, p + d < n → f (p + d) ≤ f p := by
    intro d
    induction d with
    | zero => intro _; exact Int.le_refl _
    | succ d ih => intro h; have := h2 (p + d) (by omega) (by omega); have := ih (by omega); rw [show p + (d + 1) = p + d + 1 by omega]; omega
  have top : ∀ k, k < n → f k ≤ f p := fun k hk => by
    by_cases c : k ≤ p
    · exact up (p - k) k (by omega)
    · have := dn (k - p) (by omega)
      rw [show p + (k - p) = k by omega] at this; exact this
  let ns := (List.range n).map f
  have hns : tab n f = ns.map .int := tab_map n f
  have hlen : ns.length = n := by show ((List.range n).map f).length = n; simp
  have hget : ∀ k, k < n → ns[k]? = some (f k) := fun k hk => by show ((List.range n).map f)[k]? = _; simp [hk]
  have hmem : f p ∈ ns := List.mem_map.mpr ⟨p, List.mem_range.mpr hp, rfl⟩
  have hmax : aMax [.lst (tab n f)] = some (.int (f p)) := by
    rw [hns]
    show ((intsD (.lst (ns.map .int))).bind fun ns => (maxL ns).map D.int) = _
    unfold intsD
    rw [seqD_lst, Option.bind_some, intsOf_map, Option.bind_some]
    cases hm : maxL ns with
    | none =>
      cases e : ns with
      | nil => rw [e] at hmem; cases hmem
      | cons a l => rw [e] at hm; cases hm
    | some m =>
      have := maxL_uniq hm (m := f p) hmem fun y hy => by
        obtain ⟨k, hk, rfl⟩ := List.mem_map.mp hy
        exact top k (List.mem_range.mp hk)
      rw [this]; rfl
  have hidx := List.idxOf_lt_length_of_mem hmem
  have hat := at_idx hidx
  have hfirst : ∀ m, m < ns.idxOf (f p) → m < n → f m ≠ f p := fun m hm hmn e => by
    have := first_idx hm (hget m hmn)
    rw [e] at this
    exact absurd this (by simp)
  generalize ht : ns.idxOf (f p) = t at *
  rw [hlen] at hidx
  rw [hget t hidx] at hat
  have hft : f t = f p := Option.some.inj hat
  have htp : t ≤ p := Nat.le_of_not_lt fun c => hfirst p c hp rfl
  refine ⟨t, hidx, hmax, ?_, fun k hk => h1 k (by omega), fun k hk hk2 => ?_⟩
  · rw [hns]
    show ((intsOf (ns.map .int)).bind fun ns => if ns.idxOf (f p) < ns.length then some (D.int (ns.idxOf (f p) : Nat)) else none) = _
    rw [intsOf_map, Option.bind_some, ht, if_pos (by rw [hlen]; exact hidx)]
  · by_cases c : p ≤ k
    · exact h2 k c hk2
    · have mono : ∀ d, t + d ≤ p → f (t + d) = f p := by
        intro d
        induction d with
        | zero => intro _; exact hft
        | succ d ih =>
          intro h
          have a1 := ih (by omega)
          have a2 := h1 (t + d) (by omega)
          have a3 := top (t + (d + 1)) (by omega)
          rw [show t + (d + 1) = t + d + 1 by omega] at a3 ⊢
          omega
      have b1 := mono (k - t) (by omega)
      have b2 := mono (k + 1 - t) (by omega)
      rw [show t + (k - t) = k by omega] at b1
      rw [show t + (k + 1 - t) = k + 1 by omega] at b2
      omega
end K58
end
section
set_option maxHeartbeats 1000000
namespace K58
open PySem PySem.Spec PyProof.Rows L2 FL Lb LbD
open P59 (asc up1)
open P58 (ext rwF ri rp rq)
open K59 (sI sI_len sI_ix tl)
theorem pick_same : m__law_pick = Lb.pickM := rfl
abbrev Ev (x2 x3 x4 x5 x6 x7 x8 x9 x10 x11 x16 : SV) : FL.Env := [.un, .d .tok, x2, x3, x4, x5, x6, x7, x8, x9, x10, x11, .un, .un, .un, .un, x16, .un]
def prod (S : List Nat) : Nat := S.foldl (· * ·) 1
theorem prod_snoc (S : List Nat) (x : Nat) : prod (S ++ [x]) = prod S * x := by unfold prod; rw [List.foldl_append]; rfl
structure St (S : List Nat) : Prop where
  le : ∀ s ∈ S, 1 ≤ s ∧ s ≤ 7
  prod : prod S ≤ 400
theorem St.nil : St [] := ⟨by simp, by decide⟩
theorem St.snoc {S : List Nat} (h : St S) {x : Nat} (h1 : 1 ≤ x) (h2 : x ≤ 7) (h3 : K58.prod S * x ≤ 400) : St (S ++ [x]) := ⟨fun s hs => by
  rcases List.mem_append.mp hs with h' | h'
  · exact h.le s h'
  · rw [List.mem_singleton] at h'; omega, by rw [prod_snoc]; exact h3⟩
theorem body1 {x2 : SV} {d : D} {S : List Nat} (h : St S) (hl : S.length ≤ 90) : Tr (b_law_1 (Ev x2 (.d (TN S)) (.d (.int (prod S : Nat))) (.d d) .un .un .un .un .un .un .un)) (fun o => ∃ ρ', o = .nx ρ' ∧ ∃ S', (St S' ∧ S'.length ≤ S.length + 1 ∧ S' ≠ []) ∧ ρ' = Ev x2 (.d (TN S')) (.d (.int (prod S' : Nat))) .un .un .un .un .un .un .un .un) := by
  unfold b_law_1
  refine tr_seq' (fun ρ => ∃ x : Nat, (1 ≤ x ∧ x ≤ 7) ∧ ρ = Ev x2 (.d (TN S)) (.d (.int (prod S : Nat))) (.d d) .un (.d (.int (x : Int))) .un .un .un .un .un) ?_ ?_
  · simp only [run_r, seq_r, cont_nx, cont_rt, cont_bk, cont_ct, if_r, sel_t, sel_f, ife_r, sele_t, sele_f, and_r, or_r, sela_t, sela_f, selo_t, selo_f, out_rt, out_rtl, out_rtO, out_nx, setD, setO, retS, retO, retV, retN, nilS, fgt, isB, truB, truD, notB, orV, andV, notV, b1, b2, bA, aC, aN, vr, vw, cst, nth, sset, bnd_r, opt_s, cond_true, cond_false, eTup_0, eTup_1, eTup_2, eTup_3, eLst_0, eLst_1, eLst_2, eLst_3, callE, mkE, List.replicate_succ, List.replicate_zero, List.length_cons, List.length_nil, List.length_map, if_true, if_false, Nat.reduceAdd, Nat.reduceSub, Bool.false_and, Bool.and_true, Bool.true_and, Bool.and_false, Bool.not_true, Bool.not_false, Bool.true_or, Bool.or_true, Bool.false_or, Bool.or_false, reduceIte, Bool.false_eq_true, dGt, dLt, dGe, dLe, dCmp, dSub, dNeg, aLen, seqD_tup, seqD_lst, seqD_T, Option.map_some, dIsN, dNotN, isNonD_non, isNonD_bl, isNonD_int, isNonD_str, isNonD_tup, isNonD_lst, isNonD_T, forL_nil, forL_cons, loop_nx, loop_ct, loop_bk, loop_rt, frzS, frzE, appS, parS, bnd_assoc]
    refine tr_drawN (by decide) (by decide) fun v hv => ?_
    simp only [run_r, seq_r, cont_nx, cont_rt, cont_bk, cont_ct, if_r, sel_t, sel_f, ife_r, sele_t, sele_f, and_r, or_r, sela_t, sela_f, selo_t, selo_f, out_rt, out_rtl, out_rtO, out_nx, setD, setO, retS, retO, retV, retN, nilS, fgt, isB, truB, truD, notB, orV, andV, notV, b1, b2, bA, aC, aN, vr, vw, cst, nth, sset, bnd_r, opt_s, cond_true, cond_false, eTup_0, eTup_1, eTup_2, eTup_3, eLst_0, eLst_1, eLst_2, eLst_3, callE, mkE, List.replicate_succ, List.replicate_zero, List.length_cons, List.length_nil, List.length_map, if_true, if_false, Nat.reduceAdd, Nat.reduceSub, Bool.false_and, Bool.and_true, Bool.true_and, Bool.and_false, Bool.not_true, Bool.not_false, Bool.true_or, Bool.or_true, Bool.false_or, Bool.or_false, reduceIte, Bool.false_eq_true, dGt, dLt, dGe, dLe, dCmp, dSub, dNeg, aLen, seqD_tup, seqD_lst, seqD_T, Option.map_some, dIsN, dNotN, isNonD_non, isNonD_bl, isNonD_int, isNonD_str, isNonD_tup, isNonD_lst, isNonD_T, forL_nil, forL_cons, loop_nx, loop_ct, loop_bk, loop_rt, frzS, frzE, appS, parS, dAdd_ii]
    exact Tr.ret ⟨_, rfl, v + 1, by omega, by rw [show ((v + 1 : Nat) : Int) = 1 + (v : Int) by omega]⟩
  rintro _ ⟨x, hx, rfl⟩
  have hp := h.prod
  have m1 : dMul (.int ((prod S : Nat) : Int)) (.int (x : Int)) = some (.int ((prod S * x : Nat) : Int)) := by rw [dMul_ii (by omega) (by omega), Int.natCast_mul]
  by_cases c : prod S * x ≤ 400
  · have c' : (((prod S * x : Nat) : Int) ≤ 400) := by omega
    have ha := dAdd_TN (r := S) (m := x) (by omega)
    refine tr_seq' (fun ρ => ρ = Ev x2 (.d (TN (S ++ [x]))) (.d (.int (prod (S ++ [x]) : Nat))) (.d d) .un (.d (.int (x : Int))) .un .un .un .un .un) (tr_nx (by
      rw [prod_snoc]
      simp only [run_r, seq_r, cont_nx, cont_rt, cont_bk, cont_ct, if_r, sel_t, sel_f, ife_r, sele_t, sele_f, and_r, or_r, sela_t, sela_f, selo_t, selo_f, out_rt, out_rtl, out_rtO, out_nx, setD, setO, retS, retO, retV, retN, nilS, fgt, isB, truB, truD, notB, orV, andV, notV, b1, b2, bA, aC, aN, vr, vw, cst, nth, sset, bnd_r, opt_s, cond_true, cond_false, eTup_0, eTup_1, eTup_2, eTup_3, eLst_0, eLst_1, eLst_2, eLst_3, callE, mkE, List.replicate_succ, List.replicate_zero, List.length_cons, List.length_nil, List.length_map, if_true, if_false, Nat.reduceAdd, Nat.reduceSub, Bool.false_and, Bool.and_true, Bool.true_and, Bool.and_false, Bool.not_true, Bool.not_false, Bool.true_or, Bool.or_true, Bool.false_or, Bool.or_false, reduceIte, Bool.false_eq_true, dGt, dLt, dGe, dLe, dCmp, dSub, dNeg, aLen, seqD_tup, seqD_lst, seqD_T, Option.map_some, dIsN, dNotN, isNonD_non, isNonD_bl, isNonD_int, isNonD_str, isNonD_tup, isNonD_lst, isNonD_T, forL_nil, forL_cons, loop_nx, loop_ct, loop_bk, loop_rt, frzS, frzE, appS, parS, parS, m1, c', decide_true, ha]) rfl) ?_
    rintro _ rfl
    exact tr_nx (by simp only [run_r, seq_r, cont_nx, cont_rt, cont_bk, cont_ct, if_r, sel_t, sel_f, ife_r, sele_t, sele_f, and_r, or_r, sela_t, sela_f, selo_t, selo_f, out_rt, out_rtl, out_rtO, out_nx, setD, setO, retS, retO, retV, retN, nilS, fgt, isB, truB, truD, notB, orV, andV, notV, b1, b2, bA, aC, aN, vr, vw, cst, nth, sset, bnd_r, opt_s, cond_true, cond_false, eTup_0, eTup_1, eTup_2, eTup_3, eLst_0, eLst_1, eLst_2, eLst_3, callE, mkE, List.replicate_succ, List.replicate_zero, List.length_cons, List.length_nil, List.length_map, if_true, if_false, Nat.reduceAdd, Nat.reduceSub, Bool.false_and, Bool.and_true, Bool.true_and, Bool.and_false, Bool.not_true, Bool.not_false, Bool.true_or, Bool.or_true, Bool.false_or, Bool.or_false, reduceIte, Bool.false_eq_true, dGt, dLt, dGe, dLe, dCmp, dSub, dNeg, aLen, seqD_tup, seqD_lst, seqD_T, Option.map_some, dIsN, dNotN, isNonD_non, isNonD_bl, isNonD_int, isNonD_str, isNonD_tup, isNonD_lst, isNonD_T, forL_nil, forL_cons, loop_nx, loop_ct, loop_bk, loop_rt, frzS, frzE, appS, parS] <;> rfl) ⟨S ++ [x], ⟨h.snoc hx.1 hx.2 c, by simp, by simp⟩, rfl⟩
  · have c' : ¬ (((prod S * x : Nat) : Int) ≤ 400) := by omega
    have hne : S ≠ [] := fun e => by
      subst e
      have : prod [] = 1 := rfl
      rw [this] at c
      omega
    refine tr_seq' (fun ρ => ρ = Ev x2 (.d (TN S)) (.d (.int (prod S : Nat))) (.d d) .un (.d (.int (x : Int))) .un .un .un .un .un) (tr_nx (by simp only [run_r, seq_r, cont_nx, cont_rt, cont_bk, cont_ct, if_r, sel_t, sel_f, ife_r, sele_t, sele_f, and_r, or_r, sela_t, sela_f, selo_t, selo_f, out_rt, out_rtl, out_rtO, out_nx, setD, setO, retS, retO, retV, retN, nilS, fgt, isB, truB, truD, notB, orV, andV, notV, b1, b2, bA, aC, aN, vr, vw, cst, nth, sset, bnd_r, opt_s, cond_true, cond_false, eTup_0, eTup_1, eTup_2, eTup_3, eLst_0, eLst_1, eLst_2, eLst_3, callE, mkE, List.replicate_succ, List.replicate_zero, List.length_cons, List.length_nil, List.length_map, if_true, if_false, Nat.reduceAdd, Nat.reduceSub, Bool.false_and, Bool.and_true, Bool.true_and, Bool.and_false, Bool.not_true, Bool.not_false, Bool.true_or, Bool.or_true, Bool.false_or, Bool.or_false, reduceIte, Bool.false_eq_true, dGt, dLt, dGe, dLe, dCmp, dSub, dNeg, aLen, seqD_tup, seqD_lst, seqD_T, Option.map_some, dIsN, dNotN, isNonD_non, isNonD_bl, isNonD_int, isNonD_str, isNonD_tup, isNonD_lst, isNonD_T, forL_nil, forL_cons, loop_nx, loop_ct, loop_bk, loop_rt, frzS, frzE, appS, parS, m1, c', decide_false]) rfl) ?_
    rintro _ rfl
    exact tr_nx (by simp only [run_r, seq_r, cont_nx, cont_rt, cont_bk, cont_ct, if_r, sel_t, sel_f, ife_r, sele_t, sele_f, and_r, or_r, sela_t, sela_f, selo_t, selo_f, out_rt, out_rtl, out_rtO, out_nx, setD, setO, retS, retO, retV, retN, nilS, fgt, isB, truB, truD, notB, orV, andV, notV, b1, b2, bA, aC, aN, vr, vw, cst, nth, sset, bnd_r, opt_s, cond_true, cond_false, eTup_0, eTup_1, eTup_2, eTup_3, eLst_0, eLst_1, eLst_2, eLst_3, callE, mkE, List.replicate_succ, List.replicate_zero, List.length_cons, List.length_nil, List.length_map, if_true, if_false, Nat.reduceAdd, Nat.reduceSub, Bool.false_and, Bool.and_true, Bool.true_and, Bool.and_false, Bool.not_true, Bool.not_false, Bool.true_or, Bool.or_true, Bool.false_or, Bool.or_false, reduceIte, Bool.false_eq_true, dGt, dLt, dGe, dLe, dCmp, dSub, dNeg, aLen, seqD_tup, seqD_lst, seqD_T, Option.map_some, dIsN, dNotN, isNonD_non, isNonD_bl, isNonD_int, isNonD_str, isNonD_tup, isNonD_lst, isNonD_T, forL_nil, forL_cons, loop_nx, loop_ct, loop_bk, loop_rt, frzS, frzE, appS, parS] <;> rfl) ⟨S, ⟨h, by omega, hne⟩, rfl⟩
/-- the law's rows -/
theorem every_loop {x2 x4 : SV} {S : List Nat} (hl : S.length ≤ 5) (hx : ∀ x ∈ S, 1 ≤ x ∧ x ≤ 7) (hp : S.foldl (· * ·) 1 ≤ 400) (hS : S ≠ []) :
    forS (itS (vr 3)) (gN 7) b_law_3 (Ev x2 (.d (TN S)) x4 .un (.d (Cd [[]])) .un .un .un .un .un .un) = ret (.nx (Ev x2 (.d (TN S)) x4 .un (.d (Cd (rwF S))) .un .un .un .un .un .un)) := by
  have lp := forFold (it := itS (vr 3)) (b := gN 7) (body := b_law_3) (l := S) (enc := fun x : Nat => D.int (x : Int)) (E := fun C => Ev x2 (.d (TN S)) x4 .un (.d (Cd C)) .un .un .un .un .un .un) (ρ0 := Ev x2 (.d (TN S)) x4 .un (.d (Cd [[]])) .un .un .un .un .un .un) (step := ext) IR (s0 := [[]]) (itSt rfl) (IR.start hl hx hp) (fun _ _ => rfl)
    (fun x r C _ hI => by
      obtain ⟨n1, n2, n3⟩ := hI.next
      refine ⟨_, rfl, ?_, n1⟩
      have hx7 := hI.2.2 x (by simp)
      have inn := loopAcc (it := itS (vr 6)) (b := gN 9) (body := b_law_2) (fun acc => Ev x2 (.d (TN S)) x4 .un (.d (Cd C)) (.d (.int (x : Int))) (.d (Cd acc)) .un .un .un .un) C TN (fun r => (List.range x).map fun e => r ++ [e]) (by unfold Cd; simp only [itS, run_r, seq_r, cont_nx, cont_rt, cont_bk, cont_ct, if_r, sel_t, sel_f, ife_r, sele_t, sele_f, and_r, or_r, sela_t, sela_f, selo_t, selo_f, out_rt, out_rtl, out_rtO, out_nx, setD, setO, retS, retO, retV, retN, nilS, fgt, isB, truB, truD, notB, orV, andV, notV, b1, b2, bA, aC, aN, vr, vw, cst, nth, sset, bnd_r, opt_s, cond_true, cond_false, eTup_0, eTup_1, eTup_2, eTup_3, eLst_0, eLst_1, eLst_2, eLst_3, callE, mkE, List.replicate_succ, List.replicate_zero, List.length_cons, List.length_nil, List.length_map, if_true, if_false, Nat.reduceAdd, Nat.reduceSub, Bool.false_and, Bool.and_true, Bool.true_and, Bool.and_false, Bool.not_true, Bool.not_false, Bool.true_or, Bool.or_true, Bool.false_or, Bool.or_false, reduceIte, Bool.false_eq_true, dGt, dLt, dGe, dLe, dCmp, dSub, dNeg, aLen, seqD_tup, seqD_lst, seqD_T, Option.map_some, dIsN, dNotN, isNonD_non, isNonD_bl, isNonD_int, isNonD_str, isNonD_tup, isNonD_lst, isNonD_T, forL_nil, forL_cons, loop_nx, loop_ct, loop_bk, loop_rt, frzS, frzE, appS, parS]) (by have : (ext C x).length ≤ 400 := n2; unfold ext at this; omega) (fun q hq acc ha => by
        refine ⟨_, rfl, ?_⟩
        have hql := hI.2.1 q hq
        have hc : c_law_1 (Ev x2 (.d (TN S)) x4 .un (.d (Cd C)) (.d (.int (x : Int))) (.d (Cd acc)) (.d (TN q)) .un .un .un) = ret (Cd ((List.range x).map fun e => q ++ [e])) := by
          unfold c_law_1 Cd
          rw [List.map_map]
          refine lcE_map (fun e : Nat => D.int (e : Int)) _ (List.range x) (by
            simp only [itR1, run_r, seq_r, cont_nx, cont_rt, cont_bk, cont_ct, if_r, sel_t, sel_f, ife_r, sele_t, sele_f, and_r, or_r, sela_t, sela_f, selo_t, selo_f, out_rt, out_rtl, out_rtO, out_nx, setD, setO, retS, retO, retV, retN, nilS, fgt, isB, truB, truD, notB, orV, andV, notV, b1, b2, bA, aC, aN, vr, vw, cst, nth, sset, bnd_r, opt_s, cond_true, cond_false, eTup_0, eTup_1, eTup_2, eTup_3, eLst_0, eLst_1, eLst_2, eLst_3, callE, mkE, List.replicate_succ, List.replicate_zero, List.length_cons, List.length_nil, List.length_map, if_true, if_false, Nat.reduceAdd, Nat.reduceSub, Bool.false_and, Bool.and_true, Bool.true_and, Bool.and_false, Bool.not_true, Bool.not_false, Bool.true_or, Bool.or_true, Bool.false_or, Bool.or_false, reduceIte, Bool.false_eq_true, dGt, dLt, dGe, dLe, dCmp, dSub, dNeg, aLen, seqD_tup, seqD_lst, seqD_T, Option.map_some, dIsN, dNotN, isNonD_non, isNonD_bl, isNonD_int, isNonD_str, isNonD_tup, isNonD_lst, isNonD_T, forL_nil, forL_cons, loop_nx, loop_ct, loop_bk, loop_rt, frzS, frzE, appS, parS]
            rw [rg1_nat (by omega), opt_s]) (by rw [List.length_range, sizeLine_eq]; omega) fun e he => ⟨_, rfl, ?_⟩
          have a1 := dAdd_TN (r := q) (m := e) (by omega)
          simp only [run_r, seq_r, cont_nx, cont_rt, cont_bk, cont_ct, if_r, sel_t, sel_f, ife_r, sele_t, sele_f, and_r, or_r, sela_t, sela_f, selo_t, selo_f, out_rt, out_rtl, out_rtO, out_nx, setD, setO, retS, retO, retV, retN, nilS, fgt, isB, truB, truD, notB, orV, andV, notV, b1, b2, bA, aC, aN, vr, vw, cst, nth, sset, bnd_r, opt_s, cond_true, cond_false, eTup_0, eTup_1, eTup_2, eTup_3, eLst_0, eLst_1, eLst_2, eLst_3, callE, mkE, List.replicate_succ, List.replicate_zero, List.length_cons, List.length_nil, List.length_map, if_true, if_false, Nat.reduceAdd, Nat.reduceSub, Bool.false_and, Bool.and_true, Bool.true_and, Bool.and_false, Bool.not_true, Bool.not_false, Bool.true_or, Bool.or_true, Bool.false_or, Bool.or_false, reduceIte, Bool.false_eq_true, dGt, dLt, dGe, dLe, dCmp, dSub, dNeg, aLen, seqD_tup, seqD_lst, seqD_T, Option.map_some, dIsN, dNotN, isNonD_non, isNonD_bl, isNonD_int, isNonD_str, isNonD_tup, isNonD_lst, isNonD_T, forL_nil, forL_cons, loop_nx, loop_ct, loop_bk, loop_rt, frzS, frzE, appS, parS, fgt, a1]
          rfl
        have hadd : dAdd (Cd acc) (Cd ((List.range x).map fun e => q ++ [e])) = some (Cd (acc ++ (List.range x).map fun e => q ++ [e])) := by
          unfold Cd
          rw [dAdd_ll (by rw [List.length_map, List.length_map]; omega), List.map_append]
        unfold b_law_2
        simp only [run_r, seq_r, cont_nx, cont_rt, cont_bk, cont_ct, if_r, sel_t, sel_f, ife_r, sele_t, sele_f, and_r, or_r, sela_t, sela_f, selo_t, selo_f, out_rt, out_rtl, out_rtO, out_nx, setD, setO, retS, retO, retV, retN, nilS, fgt, isB, truB, truD, notB, orV, andV, notV, b1, b2, bA, aC, aN, vr, vw, cst, nth, sset, bnd_r, opt_s, cond_true, cond_false, eTup_0, eTup_1, eTup_2, eTup_3, eLst_0, eLst_1, eLst_2, eLst_3, callE, mkE, List.replicate_succ, List.replicate_zero, List.length_cons, List.length_nil, List.length_map, if_true, if_false, Nat.reduceAdd, Nat.reduceSub, Bool.false_and, Bool.and_true, Bool.true_and, Bool.and_false, Bool.not_true, Bool.not_false, Bool.true_or, Bool.or_true, Bool.false_or, Bool.or_false, reduceIte, Bool.false_eq_true, dGt, dLt, dGe, dLe, dCmp, dSub, dNeg, aLen, seqD_tup, seqD_lst, seqD_T, Option.map_some, dIsN, dNotN, isNonD_non, isNonD_bl, isNonD_int, isNonD_str, isNonD_tup, isNonD_lst, isNonD_T, forL_nil, forL_cons, loop_nx, loop_ct, loop_bk, loop_rt, frzS, frzE, appS, parS, hc, hadd])
      have inn : forS (itS (vr 6)) (gN 9) b_law_2 (Ev x2 (.d (TN S)) x4 .un (.d (Cd C)) (.d (.int (x : Int))) (.d (.lst [])) .un .un .un .un) = ret (.nx (Ev x2 (.d (TN S)) x4 .un (.d (Cd C)) (.d (.int (x : Int))) (.d (Cd (ext C x))) .un .un .un .un)) := inn
      unfold b_law_3
      simp only [run_r, seq_r, cont_nx, cont_rt, cont_bk, cont_ct, if_r, sel_t, sel_f, ife_r, sele_t, sele_f, and_r, or_r, sela_t, sela_f, selo_t, selo_f, out_rt, out_rtl, out_rtO, out_nx, setD, setO, retS, retO, retV, retN, nilS, fgt, isB, truB, truD, notB, orV, andV, notV, b1, b2, bA, aC, aN, vr, vw, cst, nth, sset, bnd_r, opt_s, cond_true, cond_false, eTup_0, eTup_1, eTup_2, eTup_3, eLst_0, eLst_1, eLst_2, eLst_3, callE, mkE, List.replicate_succ, List.replicate_zero, List.length_cons, List.length_nil, List.length_map, if_true, if_false, Nat.reduceAdd, Nat.reduceSub, Bool.false_and, Bool.and_true, Bool.true_and, Bool.and_false, Bool.not_true, Bool.not_false, Bool.true_or, Bool.or_true, Bool.false_or, Bool.or_false, reduceIte, Bool.false_eq_true, dGt, dLt, dGe, dLe, dCmp, dSub, dNeg, aLen, seqD_tup, seqD_lst, seqD_T, Option.map_some, dIsN, dNotN, isNonD_non, isNonD_bl, isNonD_int, isNonD_str, isNonD_tup, isNonD_lst, isNonD_T, forL_nil, forL_cons, loop_nx, loop_ct, loop_bk, loop_rt, frzS, frzE, appS, parS, inn])
  rw [P58.rows_all, if_neg (by rw [List.isEmpty_iff]; exact hS)] at lp
  exact lp
/-- how many rows have each number of rises -/
theorem told_loop {x2 x4 : SV} {S : List Nat} (hl : S.length ≤ 5) (hx : ∀ x ∈ S, 1 ≤ x ∧ x ≤ 7) (hS : S ≠ []) :
    forS (itS (vr 6)) (gN 9) b_law_4 (Ev x2 (.d (TN S)) x4 .un (.d (Cd (rwF S))) .un .un .un .un .un (.o (.lst (tab (S.length + 1) fun _ => 0)))) = ret (.nx (Ev x2 (.d (TN S)) x4 .un (.d (Cd (rwF S))) .un .un .un .un .un (.o (.lst (tab (S.length + 1) (tl S)))))) := by
  have lp := LbD.forF (it := itS (vr 6)) (b := gN 9) (body := b_law_4) (fun f => Ev x2 (.d (TN S)) x4 .un (.d (Cd (rwF S))) .un .un .un .un .un (.o (.lst (tab (S.length + 1) f)))) (fun (f : Nat → Int) (r : List Nat) => fun i => if i = ri 1 0 S r then f (ri 1 0 S r) + 1 else f i) (fun _ => True) (s0 := fun _ => 0) (rwF S) TN (by unfold Cd; simp only [itS, run_r, seq_r, cont_nx, cont_rt, cont_bk, cont_ct, if_r, sel_t, sel_f, ife_r, sele_t, sele_f, and_r, or_r, sela_t, sela_f, selo_t, selo_f, out_rt, out_rtl, out_rtO, out_nx, setD, setO, retS, retO, retV, retN, nilS, fgt, isB, truB, truD, notB, orV, andV, notV, b1, b2, bA, aC, aN, vr, vw, cst, nth, sset, bnd_r, opt_s, cond_true, cond_false, eTup_0, eTup_1, eTup_2, eTup_3, eLst_0, eLst_1, eLst_2, eLst_3, callE, mkE, List.replicate_succ, List.replicate_zero, List.length_cons, List.length_nil, List.length_map, if_true, if_false, Nat.reduceAdd, Nat.reduceSub, Bool.false_and, Bool.and_true, Bool.true_and, Bool.and_false, Bool.not_true, Bool.not_false, Bool.true_or, Bool.or_true, Bool.false_or, Bool.or_false, reduceIte, Bool.false_eq_true, dGt, dLt, dGe, dLe, dCmp, dSub, dNeg, aLen, seqD_tup, seqD_lst, seqD_T, Option.map_some, dIsN, dNotN, isNonD_non, isNonD_bl, isNonD_int, isNonD_str, isNonD_tup, isNonD_lst, isNonD_T, forL_nil, forL_cons, loop_nx, loop_ct, loop_bk, loop_rt, frzS, frzE, appS, parS]) trivial (fun r hr f _ => by
    refine ⟨_, rfl, ?_, trivial⟩
    have h1 := lrises_eq hr hS hx hl
    have h2 := P58.ri_le S r 1 0
    have x1 := tab_ix (n := S.length + 1) (f := f) (v := ((ri 1 0 S r : Nat) : Int)) (by omega) (by omega)
    rw [Int.toNat_natCast] at x1
    have x2 := tab_setIO (n := S.length + 1) (f := f) (t := ri 1 0 S r) (v := f (ri 1 0 S r) + 1) (by omega)
    unfold b_law_4
    simp only [run_r, seq_r, cont_nx, cont_rt, cont_bk, cont_ct, if_r, sel_t, sel_f, ife_r, sele_t, sele_f, and_r, or_r, sela_t, sela_f, selo_t, selo_f, out_rt, out_rtl, out_rtO, out_nx, setD, setO, retS, retO, retV, retN, nilS, fgt, isB, truB, truD, notB, orV, andV, notV, b1, b2, bA, aC, aN, vr, vw, cst, nth, sset, bnd_r, opt_s, cond_true, cond_false, eTup_0, eTup_1, eTup_2, eTup_3, eLst_0, eLst_1, eLst_2, eLst_3, callE, mkE, List.replicate_succ, List.replicate_zero, List.length_cons, List.length_nil, List.length_map, if_true, if_false, Nat.reduceAdd, Nat.reduceSub, Bool.false_and, Bool.and_true, Bool.true_and, Bool.and_false, Bool.not_true, Bool.not_false, Bool.true_or, Bool.or_true, Bool.false_or, Bool.or_false, reduceIte, Bool.false_eq_true, dGt, dLt, dGe, dLe, dCmp, dSub, dNeg, aLen, seqD_tup, seqD_lst, seqD_T, Option.map_some, dIsN, dNotN, isNonD_non, isNonD_bl, isNonD_int, isNonD_str, isNonD_tup, isNonD_lst, isNonD_T, forL_nil, forL_cons, loop_nx, loop_ct, loop_bk, loop_rt, frzS, frzE, appS, parS, setIS, h1, x1, x2, dAdd_ii])
  have e : tab (S.length + 1) ((rwF S).foldl (fun (f : Nat → Int) (r : List Nat) => fun i => if i = ri 1 0 S r then f (ri 1 0 S r) + 1 else f i) fun _ => 0) = tab (S.length + 1) (tl S) := tab_congr fun m _ => by
    rw [told_fold (ri 1 0 S) m, P58.tl_rows, Int.zero_add]
  have lp := lp.1
  rw [e] at lp
  exact lp
end K58
end
section
set_option maxHeartbeats 1000000
namespace K58
open PySem PySem.Spec PyProof.Rows L2 FL Lb LbD
open P59 (asc up1)
open P58 (ext rwF ri rp rq)
open K59 (sI sI_len sI_ix tl)
theorem gI (i : Int) : m__law_eq 60 [.int i, .int i] = ret (.bl true) := leqD leq_eq rfl
theorem gC {S : List Nat} (hl : S.length ≤ 5) (h : (rwF S).length ≤ 400) : m__law_eq 60 [Cd (rwF S), Cd (rwF S)] = ret (.bl true) := by
  refine leqD leq_eq ?_
  have e : (rwF S).map TN = ((rwF S).map sI).map T := by rw [List.map_map]; rfl
  unfold Cd
  rw [e]
  refine gdRows _ (by rw [List.length_map]; omega) fun p hp => ?_
  obtain ⟨r, hr, rfl⟩ := List.mem_map.mp hp
  rw [sI_len, (P58.rwF_row hr).1]; omega
theorem none_f {α : Type} (L : List α) : L.filter (fun _ => false) = [] := by simp
theorem up1_sI (n : Nat) : sI (up1 n) = rng 1 n := by
  unfold sI P59.up1 rng
  rw [List.map_map]
  exact List.map_congr_left fun k _ => by show ((k + 1 : Nat) : Int) = 1 + (k : Int); omega
theorem body5 {d : D} : Tr (b_law_5 (Ev (.d d) .un .un .un .un .un .un .un .un .un .un)) (fun o => ∃ ρ', o = .nx ρ' ∧ ρ' = Ev .un .un .un .un .un .un .un .un .un .un .un) := by
  unfold b_law_5
  refine tr_seq' (fun ρ => ρ = Ev (.d d) (.d (TN [])) .un .un .un .un .un .un .un .un .un) (tr_nx (by simp only [run_r, seq_r, cont_nx, cont_rt, cont_bk, cont_ct, if_r, sel_t, sel_f, ife_r, sele_t, sele_f, and_r, or_r, sela_t, sela_f, selo_t, selo_f, out_rt, out_rtl, out_rtO, out_nx, setD, setO, retS, retO, retV, retN, nilS, fgt, isB, truB, truD, notB, orV, andV, notV, b1, b2, bA, aC, aN, vr, vw, cst, nth, sset, bnd_r, opt_s, cond_true, cond_false, eTup_0, eTup_1, eTup_2, eTup_3, eLst_0, eLst_1, eLst_2, eLst_3, callE, mkE, List.replicate_succ, List.replicate_zero, List.length_cons, List.length_nil, List.length_map, if_true, if_false, Nat.reduceAdd, Nat.reduceSub, Bool.false_and, Bool.and_true, Bool.true_and, Bool.and_false, Bool.not_true, Bool.not_false, Bool.true_or, Bool.or_true, Bool.false_or, Bool.or_false, reduceIte, Bool.false_eq_true, dGt, dLt, dGe, dLe, dCmp, dSub, dNeg, aLen, seqD_tup, seqD_lst, seqD_T, Option.map_some, dIsN, dNotN, isNonD_non, isNonD_bl, isNonD_int, isNonD_str, isNonD_tup, isNonD_lst, isNonD_T, forL_nil, forL_cons, loop_nx, loop_ct, loop_bk, loop_rt, frzS, frzE, appS, parS] <;> rfl) rfl) ?_
  rintro _ rfl
  refine tr_seq' (fun ρ => ρ = Ev (.d d) (.d (TN [])) (.d (.int (prod [] : Nat))) .un .un .un .un .un .un .un .un) (tr_nx (by simp only [run_r, seq_r, cont_nx, cont_rt, cont_bk, cont_ct, if_r, sel_t, sel_f, ife_r, sele_t, sele_f, and_r, or_r, sela_t, sela_f, selo_t, selo_f, out_rt, out_rtl, out_rtO, out_nx, setD, setO, retS, retO, retV, retN, nilS, fgt, isB, truB, truD, notB, orV, andV, notV, b1, b2, bA, aC, aN, vr, vw, cst, nth, sset, bnd_r, opt_s, cond_true, cond_false, eTup_0, eTup_1, eTup_2, eTup_3, eLst_0, eLst_1, eLst_2, eLst_3, callE, mkE, List.replicate_succ, List.replicate_zero, List.length_cons, List.length_nil, List.length_map, if_true, if_false, Nat.reduceAdd, Nat.reduceSub, Bool.false_and, Bool.and_true, Bool.true_and, Bool.and_false, Bool.not_true, Bool.not_false, Bool.true_or, Bool.or_true, Bool.false_or, Bool.or_false, reduceIte, Bool.false_eq_true, dGt, dLt, dGe, dLe, dCmp, dSub, dNeg, aLen, seqD_tup, seqD_lst, seqD_T, Option.map_some, dIsN, dNotN, isNonD_non, isNonD_bl, isNonD_int, isNonD_str, isNonD_tup, isNonD_lst, isNonD_T, forL_nil, forL_cons, loop_nx, loop_ct, loop_bk, loop_rt, frzS, frzE, appS, parS] <;> rfl) rfl) ?_
  rintro _ rfl
  refine tr_seq' (fun ρ => ∃ S, (St S ∧ 1 ≤ S.length ∧ S.length ≤ 5) ∧ ρ = Ev (.d d) (.d (TN S)) (.d (.int (prod S : Nat))) .un .un .un .un .un .un .un .un) ?_ ?_
  · unfold FL.forS
    simp only [itR1, run_r, seq_r, cont_nx, cont_rt, cont_bk, cont_ct, if_r, sel_t, sel_f, ife_r, sele_t, sele_f, and_r, or_r, sela_t, sela_f, selo_t, selo_f, out_rt, out_rtl, out_rtO, out_nx, setD, setO, retS, retO, retV, retN, nilS, fgt, isB, truB, truD, notB, orV, andV, notV, b1, b2, bA, aC, aN, vr, vw, cst, nth, sset, bnd_r, opt_s, cond_true, cond_false, eTup_0, eTup_1, eTup_2, eTup_3, eLst_0, eLst_1, eLst_2, eLst_3, callE, mkE, List.replicate_succ, List.replicate_zero, List.length_cons, List.length_nil, List.length_map, if_true, if_false, Nat.reduceAdd, Nat.reduceSub, Bool.false_and, Bool.and_true, Bool.true_and, Bool.and_false, Bool.not_true, Bool.not_false, Bool.true_or, Bool.or_true, Bool.false_or, Bool.or_false, reduceIte, Bool.false_eq_true, dGt, dLt, dGe, dLe, dCmp, dSub, dNeg, aLen, seqD_tup, seqD_lst, seqD_T, Option.map_some, dIsN, dNotN, isNonD_non, isNonD_bl, isNonD_int, isNonD_str, isNonD_tup, isNonD_lst, isNonD_T, forL_nil, forL_cons, loop_nx, loop_ct, loop_bk, loop_rt, frzS, frzE, appS, parS, bnd_assoc]
    refine tr_drawN (by decide) (by decide) fun v hv => ?_
    simp only [run_r, seq_r, cont_nx, cont_rt, cont_bk, cont_ct, if_r, sel_t, sel_f, ife_r, sele_t, sele_f, and_r, or_r, sela_t, sela_f, selo_t, selo_f, out_rt, out_rtl, out_rtO, out_nx, setD, setO, retS, retO, retV, retN, nilS, fgt, isB, truB, truD, notB, orV, andV, notV, b1, b2, bA, aC, aN, vr, vw, cst, nth, sset, bnd_r, opt_s, cond_true, cond_false, eTup_0, eTup_1, eTup_2, eTup_3, eLst_0, eLst_1, eLst_2, eLst_3, callE, mkE, List.replicate_succ, List.replicate_zero, List.length_cons, List.length_nil, List.length_map, if_true, if_false, Nat.reduceAdd, Nat.reduceSub, Bool.false_and, Bool.and_true, Bool.true_and, Bool.and_false, Bool.not_true, Bool.not_false, Bool.true_or, Bool.or_true, Bool.false_or, Bool.or_false, reduceIte, Bool.false_eq_true, dGt, dLt, dGe, dLe, dCmp, dSub, dNeg, aLen, seqD_tup, seqD_lst, seqD_T, Option.map_some, dIsN, dNotN, isNonD_non, isNonD_bl, isNonD_int, isNonD_str, isNonD_tup, isNonD_lst, isNonD_T, forL_nil, forL_cons, loop_nx, loop_ct, loop_bk, loop_rt, frzS, frzE, appS, parS, dAdd_ii]
    rw [show (1 : Int) + (v : Int) = ((v + 1 : Nat) : Int) by omega, rg1_nat (by omega), opt_s, bnd_r]
    refine tr_forL (I := fun ds ρ => ∃ S, (St S ∧ S.length + ds.length ≤ 5 ∧ (S ≠ [] ∨ ds.length = v + 1)) ∧ ρ = Ev (.d d) (.d (TN S)) (.d (.int (prod S : Nat))) .un .un .un .un .un .un .un .un) ⟨[], ⟨.nil, by rw [List.length_map, List.length_range]; simp; omega, .inr (by rw [List.length_map, List.length_range])⟩, rfl⟩ (fun x r ρ _ h => ?_) fun ρ h => ?_
    · obtain ⟨S, ⟨hS, hl, _⟩, rfl⟩ := h
      rw [List.length_cons] at hl
      refine ⟨Ev (.d d) (.d (TN S)) (.d (.int (prod S : Nat))) (.d x) .un .un .un .un .un .un .un, rfl, ?_⟩
      refine Tr.mono (body1 hS (by omega)) ?_
      rintro o ⟨ρ', rfl, S', ⟨h1, h2, h3⟩, rfl⟩
      exact ⟨_, rfl, S', ⟨h1, by omega, .inl h3⟩, rfl⟩
    · obtain ⟨S, ⟨hS, hl, hne⟩, rfl⟩ := h
      rw [List.length_nil] at hl hne
      refine ⟨_, rfl, S, ⟨hS, ?_, by omega⟩, rfl⟩
      rcases hne with e | e
      · rcases S with _ | ⟨a, S⟩
        · exact absurd rfl e
        · simp
      · omega
  rintro _ ⟨S, ⟨hS, hl1, hl2⟩, rfl⟩
  have hx := hS.le
  have hp : S.foldl (· * ·) 1 ≤ 400 := hS.prod
  have hne : S ≠ [] := fun e => by subst e; simp at hl1
  have hrl : (rwF S).length ≤ 400 := by
    have := P58.rwF_len S 1
    rw [Nat.one_mul] at this
    omega
  generalize hsz : SV.d (D.int ((prod S : Nat) : Int)) = sz
  refine tr_seq' (fun ρ => ρ = Ev (.d d) (.d (TN S)) sz .un (.d (Cd [[]])) .un .un .un .un .un .un) (tr_nx (by simp only [run_r, seq_r, cont_nx, cont_rt, cont_bk, cont_ct, if_r, sel_t, sel_f, ife_r, sele_t, sele_f, and_r, or_r, sela_t, sela_f, selo_t, selo_f, out_rt, out_rtl, out_rtO, out_nx, setD, setO, retS, retO, retV, retN, nilS, fgt, isB, truB, truD, notB, orV, andV, notV, b1, b2, bA, aC, aN, vr, vw, cst, nth, sset, bnd_r, opt_s, cond_true, cond_false, eTup_0, eTup_1, eTup_2, eTup_3, eLst_0, eLst_1, eLst_2, eLst_3, callE, mkE, List.replicate_succ, List.replicate_zero, List.length_cons, List.length_nil, List.length_map, if_true, if_false, Nat.reduceAdd, Nat.reduceSub, Bool.false_and, Bool.and_true, Bool.true_and, Bool.and_false, Bool.not_true, Bool.not_false, Bool.true_or, Bool.or_true, Bool.false_or, Bool.or_false, reduceIte, Bool.false_eq_true, dGt, dLt, dGe, dLe, dCmp, dSub, dNeg, aLen, seqD_tup, seqD_lst, seqD_T, Option.map_some, dIsN, dNotN, isNonD_non, isNonD_bl, isNonD_int, isNonD_str, isNonD_tup, isNonD_lst, isNonD_T, forL_nil, forL_cons, loop_nx, loop_ct, loop_bk, loop_rt, frzS, frzE, appS, parS] <;> rfl) rfl) ?_
  rintro _ rfl
  refine tr_seq' (fun ρ => ρ = Ev (.d d) (.d (TN S)) sz .un (.d (Cd (rwF S))) .un .un .un .un .un .un) (tr_nx (every_loop hl2 hx hp hne) rfl) ?_
  rintro _ rfl
  have i1 := index_eq hl2 hx hp
  have i2 := gC hl2 hrl
  refine tr_seq' (fun ρ => ρ = Ev (.d d) (.d (TN S)) sz .un (.d (Cd (rwF S))) .un .un .un .un .un .un) (tr_nx (by simp only [run_r, seq_r, cont_nx, cont_rt, cont_bk, cont_ct, if_r, sel_t, sel_f, ife_r, sele_t, sele_f, and_r, or_r, sela_t, sela_f, selo_t, selo_f, out_rt, out_rtl, out_rtO, out_nx, setD, setO, retS, retO, retV, retN, nilS, fgt, isB, truB, truD, notB, orV, andV, notV, b1, b2, bA, aC, aN, vr, vw, cst, nth, sset, bnd_r, opt_s, cond_true, cond_false, eTup_0, eTup_1, eTup_2, eTup_3, eLst_0, eLst_1, eLst_2, eLst_3, callE, mkE, List.replicate_succ, List.replicate_zero, List.length_cons, List.length_nil, List.length_map, if_true, if_false, Nat.reduceAdd, Nat.reduceSub, Bool.false_and, Bool.and_true, Bool.true_and, Bool.and_false, Bool.not_true, Bool.not_false, Bool.true_or, Bool.or_true, Bool.false_or, Bool.or_false, reduceIte, Bool.false_eq_true, dGt, dLt, dGe, dLe, dCmp, dSub, dNeg, aLen, seqD_tup, seqD_lst, seqD_T, Option.map_some, dIsN, dNotN, isNonD_non, isNonD_bl, isNonD_int, isNonD_str, isNonD_tup, isNonD_lst, isNonD_T, forL_nil, forL_cons, loop_nx, loop_ct, loop_bk, loop_rt, frzS, frzE, appS, parS, i1, i2]) rfl) ?_
  rintro _ rfl
  have len : aLen [TN S] = some (.int (S.length : Nat)) := by
    unfold TN
    simp only [aLen, seqD_T, Option.map_some, List.length_map, sI_len]
  have n1 : ((S.length : Int) + 1) = ((S.length + 1 : Nat) : Int) := rfl
  have rp := LbB.rep_tab (k := S.length + 1) (by omega)
  refine tr_seq' (fun ρ => ρ = Ev (.d d) (.d (TN S)) sz .un (.d (Cd (rwF S))) .un .un .un .un .un (.o (.lst (tab (S.length + 1) fun _ => 0)))) (tr_nx (by
    have l1 : (bA aLen (aC (vw 3) aN)) (Ev (.d d) (.d (TN S)) sz .un (.d (Cd (rwF S))) .un .un .un .un .un .un) = ret (.int (S.length : Nat)) := by
      simp only [bA, aC, aN, vw, nth, bnd_r, len, opt_s]
    unfold FL.setO FL.b2
    rw [l1]
    simp only [run_r, seq_r, cont_nx, cont_rt, cont_bk, cont_ct, if_r, sel_t, sel_f, ife_r, sele_t, sele_f, and_r, or_r, sela_t, sela_f, selo_t, selo_f, out_rt, out_rtl, out_rtO, out_nx, setD, setO, retS, retO, retV, retN, nilS, fgt, isB, truB, truD, notB, orV, andV, notV, b1, b2, bA, aC, aN, vr, vw, cst, nth, sset, bnd_r, opt_s, cond_true, cond_false, eTup_0, eTup_1, eTup_2, eTup_3, eLst_0, eLst_1, eLst_2, eLst_3, callE, mkE, List.replicate_succ, List.replicate_zero, List.length_cons, List.length_nil, List.length_map, if_true, if_false, Nat.reduceAdd, Nat.reduceSub, Bool.false_and, Bool.and_true, Bool.true_and, Bool.and_false, Bool.not_true, Bool.not_false, Bool.true_or, Bool.or_true, Bool.false_or, Bool.or_false, reduceIte, Bool.false_eq_true, dGt, dLt, dGe, dLe, dCmp, dSub, dNeg, aLen, seqD_tup, seqD_lst, seqD_T, Option.map_some, dIsN, dNotN, isNonD_non, isNonD_bl, isNonD_int, isNonD_str, isNonD_tup, isNonD_lst, isNonD_T, forL_nil, forL_cons, loop_nx, loop_ct, loop_bk, loop_rt, frzS, frzE, appS, parS, dAdd_ii, n1, rp]) rfl) ?_
  rintro _ rfl
  refine tr_seq' (fun ρ => ρ = Ev (.d d) (.d (TN S)) sz .un (.d (Cd (rwF S))) .un .un .un .un .un (.o (.lst (tab (S.length + 1) (tl S))))) (tr_nx (told_loop hl2 hx hne) rfl) ?_
  rintro _ rfl
  simp only [frzS, frzE, nth, sset]
  have r1 := K59.rise_eq (S := S) hl1 (by omega) (fun s hs => by have := (hx s hs).2; omega)
  rw [← rn_same] at r1
  have r1 : m_rise_numbers [TN S] = ret (.lst (tab (S.length + 1) (tl S))) := r1
  have r2 : m__law_eq 60 [.lst (tab (S.length + 1) (tl S)), .lst (tab (S.length + 1) (tl S))] = ret (.bl true) := leqD leq_eq (gdTab _ (by omega) _)
  refine tr_seq' (fun ρ => ρ = Ev (.d d) (.d (TN S)) sz .un (.d (Cd (rwF S))) .un .un .un .un .un (.d (.lst (tab (S.length + 1) (tl S))))) (tr_nx (by simp only [run_r, seq_r, cont_nx, cont_rt, cont_bk, cont_ct, if_r, sel_t, sel_f, ife_r, sele_t, sele_f, and_r, or_r, sela_t, sela_f, selo_t, selo_f, out_rt, out_rtl, out_rtO, out_nx, setD, setO, retS, retO, retV, retN, nilS, fgt, isB, truB, truD, notB, orV, andV, notV, b1, b2, bA, aC, aN, vr, vw, cst, nth, sset, bnd_r, opt_s, cond_true, cond_false, eTup_0, eTup_1, eTup_2, eTup_3, eLst_0, eLst_1, eLst_2, eLst_3, callE, mkE, List.replicate_succ, List.replicate_zero, List.length_cons, List.length_nil, List.length_map, if_true, if_false, Nat.reduceAdd, Nat.reduceSub, Bool.false_and, Bool.and_true, Bool.true_and, Bool.and_false, Bool.not_true, Bool.not_false, Bool.true_or, Bool.or_true, Bool.false_or, Bool.or_false, reduceIte, Bool.false_eq_true, dGt, dLt, dGe, dLe, dCmp, dSub, dNeg, aLen, seqD_tup, seqD_lst, seqD_T, Option.map_some, dIsN, dNotN, isNonD_non, isNonD_bl, isNonD_int, isNonD_str, isNonD_tup, isNonD_lst, isNonD_T, forL_nil, forL_cons, loop_nx, loop_ct, loop_bk, loop_rt, frzS, frzE, appS, parS, r1, r2]) rfl) ?_
  rintro _ rfl
  refine tr_seq' (fun ρ => ∃ r, r ∈ rwF S ∧ ρ = Ev (.d d) (.d (TN S)) sz .un (.d (Cd (rwF S))) .un .un (.d (TN r)) .un .un (.d (.lst (tab (S.length + 1) (tl S))))) ?_ ?_
  · have hp := pick_tr (L := (rwF S).map TN) (by
      have := P58.rwF_len S 1
      rw [Nat.one_mul] at this
      have h2 := P58.prod_pos S 1 fun x hx' => (hx x hx').1
      intro e
      have h3 : ((rwF S).map TN).length = 0 := by rw [e]; rfl
      rw [List.length_map] at h3
      omega) (by rw [List.length_map]; omega)
    unfold Cd
    simp only [run_r, seq_r, cont_nx, cont_rt, cont_bk, cont_ct, if_r, sel_t, sel_f, ife_r, sele_t, sele_f, and_r, or_r, sela_t, sela_f, selo_t, selo_f, out_rt, out_rtl, out_rtO, out_nx, setD, setO, retS, retO, retV, retN, nilS, fgt, isB, truB, truD, notB, orV, andV, notV, b1, b2, bA, aC, aN, vr, vw, cst, nth, sset, bnd_r, opt_s, cond_true, cond_false, eTup_0, eTup_1, eTup_2, eTup_3, eLst_0, eLst_1, eLst_2, eLst_3, callE, mkE, List.replicate_succ, List.replicate_zero, List.length_cons, List.length_nil, List.length_map, if_true, if_false, Nat.reduceAdd, Nat.reduceSub, Bool.false_and, Bool.and_true, Bool.true_and, Bool.and_false, Bool.not_true, Bool.not_false, Bool.true_or, Bool.or_true, Bool.false_or, Bool.or_false, reduceIte, Bool.false_eq_true, dGt, dLt, dGe, dLe, dCmp, dSub, dNeg, aLen, seqD_tup, seqD_lst, seqD_T, Option.map_some, dIsN, dNotN, isNonD_non, isNonD_bl, isNonD_int, isNonD_str, isNonD_tup, isNonD_lst, isNonD_T, forL_nil, forL_cons, loop_nx, loop_ct, loop_bk, loop_rt, frzS, frzE, appS, parS, pick_same, bnd_assoc]
    refine Tr.bnd hp ?_
    intro y hy
    obtain ⟨r, hr, rfl⟩ := List.mem_map.mp hy
    exact Tr.ret ⟨_, rfl, r, hr, rfl⟩
  rintro _ ⟨r, hr, rfl⟩
  have q1 := rises_eq hr hne hx hl2
  have q2_ := lrises_eq hr hne hx hl2
  have q3 := gI ((ri 1 0 S r : Nat) : Int)
  refine tr_seq' (fun ρ => ρ = Ev (.d d) (.d (TN S)) sz .un (.d (Cd (rwF S))) .un .un (.d (TN r)) .un .un (.d (.lst (tab (S.length + 1) (tl S))))) (tr_nx (by simp only [run_r, seq_r, cont_nx, cont_rt, cont_bk, cont_ct, if_r, sel_t, sel_f, ife_r, sele_t, sele_f, and_r, or_r, sela_t, sela_f, selo_t, selo_f, out_rt, out_rtl, out_rtO, out_nx, setD, setO, retS, retO, retV, retN, nilS, fgt, isB, truB, truD, notB, orV, andV, notV, b1, b2, bA, aC, aN, vr, vw, cst, nth, sset, bnd_r, opt_s, cond_true, cond_false, eTup_0, eTup_1, eTup_2, eTup_3, eLst_0, eLst_1, eLst_2, eLst_3, callE, mkE, List.replicate_succ, List.replicate_zero, List.length_cons, List.length_nil, List.length_map, if_true, if_false, Nat.reduceAdd, Nat.reduceSub, Bool.false_and, Bool.and_true, Bool.true_and, Bool.and_false, Bool.not_true, Bool.not_false, Bool.true_or, Bool.or_true, Bool.false_or, Bool.or_false, reduceIte, Bool.false_eq_true, dGt, dLt, dGe, dLe, dCmp, dSub, dNeg, aLen, seqD_tup, seqD_lst, seqD_T, Option.map_some, dIsN, dNotN, isNonD_non, isNonD_bl, isNonD_int, isNonD_str, isNonD_tup, isNonD_lst, isNonD_T, forL_nil, forL_cons, loop_nx, loop_ct, loop_bk, loop_rt, frzS, frzE, appS, parS, q1, q2_, q3]) rfl) ?_
  rintro _ rfl
  obtain ⟨p, p1, p2, p3⟩ := P58.peak hl2 hx hp
  obtain ⟨t, t1, t2, t3, t4, t5⟩ := index_tab p1 p2 p3
  refine tr_seq' (fun ρ => ρ = Ev (.d d) (.d (TN S)) sz .un (.d (Cd (rwF S))) .un .un (.d (TN r)) .un (.d (.int (t : Int))) (.d (.lst (tab (S.length + 1) (tl S))))) (tr_nx (by simp only [run_r, seq_r, cont_nx, cont_rt, cont_bk, cont_ct, if_r, sel_t, sel_f, ife_r, sele_t, sele_f, and_r, or_r, sela_t, sela_f, selo_t, selo_f, out_rt, out_rtl, out_rtO, out_nx, setD, setO, retS, retO, retV, retN, nilS, fgt, isB, truB, truD, notB, orV, andV, notV, b1, b2, bA, aC, aN, vr, vw, cst, nth, sset, bnd_r, opt_s, cond_true, cond_false, eTup_0, eTup_1, eTup_2, eTup_3, eLst_0, eLst_1, eLst_2, eLst_3, callE, mkE, List.replicate_succ, List.replicate_zero, List.length_cons, List.length_nil, List.length_map, if_true, if_false, Nat.reduceAdd, Nat.reduceSub, Bool.false_and, Bool.and_true, Bool.true_and, Bool.and_false, Bool.not_true, Bool.not_false, Bool.true_or, Bool.or_true, Bool.false_or, Bool.or_false, reduceIte, Bool.false_eq_true, dGt, dLt, dGe, dLe, dCmp, dSub, dNeg, aLen, seqD_tup, seqD_lst, seqD_T, Option.map_some, dIsN, dNotN, isNonD_non, isNonD_bl, isNonD_int, isNonD_str, isNonD_tup, isNonD_lst, isNonD_T, forL_nil, forL_cons, loop_nx, loop_ct, loop_bk, loop_rt, frzS, frzE, appS, parS, t2, t3]) rfl) ?_
  rintro _ rfl
  have c3 : c_law_3 (Ev (.d d) (.d (TN S)) sz .un (.d (Cd (rwF S))) .un .un (.d (TN r)) .un (.d (.int (t : Int))) (.d (.lst (tab (S.length + 1) (tl S))))) = ret (.lst []) := by
    unfold c_law_3
    have h := lcFil (it := itR1 (vw 11)) (b := gN 5) (tt := isB (b2 dGt (b2 dIx (vw 16) (vw 5)) (b2 dIx (vw 16) (b2 dAdd (vw 5) (cst (.int 1)))))) (el := vr 5) (vs := [5]) (ρ := Ev (.d d) (.d (TN S)) sz .un (.d (Cd (rwF S))) .un .un (.d (TN r)) .un (.d (.int (t : Int))) (.d (.lst (tab (S.length + 1) (tl S))))) (fun k : Nat => D.int (k : Int)) (fun _ => false) (fun k => D.int (k : Int)) (List.range t) (by
      simp only [itR1, run_r, seq_r, cont_nx, cont_rt, cont_bk, cont_ct, if_r, sel_t, sel_f, ife_r, sele_t, sele_f, and_r, or_r, sela_t, sela_f, selo_t, selo_f, out_rt, out_rtl, out_rtO, out_nx, setD, setO, retS, retO, retV, retN, nilS, fgt, isB, truB, truD, notB, orV, andV, notV, b1, b2, bA, aC, aN, vr, vw, cst, nth, sset, bnd_r, opt_s, cond_true, cond_false, eTup_0, eTup_1, eTup_2, eTup_3, eLst_0, eLst_1, eLst_2, eLst_3, callE, mkE, List.replicate_succ, List.replicate_zero, List.length_cons, List.length_nil, List.length_map, if_true, if_false, Nat.reduceAdd, Nat.reduceSub, Bool.false_and, Bool.and_true, Bool.true_and, Bool.and_false, Bool.not_true, Bool.not_false, Bool.true_or, Bool.or_true, Bool.false_or, Bool.or_false, reduceIte, Bool.false_eq_true, dGt, dLt, dGe, dLe, dCmp, dSub, dNeg, aLen, seqD_tup, seqD_lst, seqD_T, Option.map_some, dIsN, dNotN, isNonD_non, isNonD_bl, isNonD_int, isNonD_str, isNonD_tup, isNonD_lst, isNonD_T, forL_nil, forL_cons, loop_nx, loop_ct, loop_bk, loop_rt, frzS, frzE, appS, parS]
      rw [rg1_nat (by omega), opt_s]) (by rw [List.length_range]; omega) fun k hk => ⟨_, rfl, by
        have hk := List.mem_range.mp hk
        have x1 := tab_ix (n := S.length + 1) (f := tl S) (v := (k : Int)) (by omega) (by omega)
        have x2 := tab_ix (n := S.length + 1) (f := tl S) (v := ((k + 1 : Nat) : Int)) (by omega) (by omega)
        rw [Int.toNat_natCast] at x1 x2
        rw [show ((k + 1 : Nat) : Int) = (k : Int) + 1 by omega] at x2
        have le : ¬ (tl S k > tl S (k + 1)) := by have := t4 k hk; omega
        simp only [run_r, seq_r, cont_nx, cont_rt, cont_bk, cont_ct, if_r, sel_t, sel_f, ife_r, sele_t, sele_f, and_r, or_r, sela_t, sela_f, selo_t, selo_f, out_rt, out_rtl, out_rtO, out_nx, setD, setO, retS, retO, retV, retN, nilS, fgt, isB, truB, truD, notB, orV, andV, notV, b1, b2, bA, aC, aN, vr, vw, cst, nth, sset, bnd_r, opt_s, cond_true, cond_false, eTup_0, eTup_1, eTup_2, eTup_3, eLst_0, eLst_1, eLst_2, eLst_3, callE, mkE, List.replicate_succ, List.replicate_zero, List.length_cons, List.length_nil, List.length_map, if_true, if_false, Nat.reduceAdd, Nat.reduceSub, Bool.false_and, Bool.and_true, Bool.true_and, Bool.and_false, Bool.not_true, Bool.not_false, Bool.true_or, Bool.or_true, Bool.false_or, Bool.or_false, reduceIte, Bool.false_eq_true, dGt, dLt, dGe, dLe, dCmp, dSub, dNeg, aLen, seqD_tup, seqD_lst, seqD_T, Option.map_some, dIsN, dNotN, isNonD_non, isNonD_bl, isNonD_int, isNonD_str, isNonD_tup, isNonD_lst, isNonD_T, forL_nil, forL_cons, loop_nx, loop_ct, loop_bk, loop_rt, frzS, frzE, appS, parS, fgt, dAdd_ii, x1, x2, le, decide_false], fun e => by cases e⟩
    rw [h, none_f]; rfl
  have c2 : c_law_2 (Ev (.d d) (.d (TN S)) sz .un (.d (Cd (rwF S))) .un .un (.d (TN r)) .un (.d (.int (t : Int))) (.d (.lst (tab (S.length + 1) (tl S))))) = ret (.lst []) := by
    unfold c_law_2
    have h := lcFil (it := itR2 (vw 11) (b2 dSub (bA aLen (aC (vw 16) aN)) (cst (.int 1)))) (b := gN 5) (tt := isB (b2 dLt (b2 dIx (vw 16) (vw 5)) (b2 dIx (vw 16) (b2 dAdd (vw 5) (cst (.int 1)))))) (el := vr 5) (vs := [5]) (ρ := Ev (.d d) (.d (TN S)) sz .un (.d (Cd (rwF S))) .un .un (.d (TN r)) .un (.d (.int (t : Int))) (.d (.lst (tab (S.length + 1) (tl S))))) (fun k : Int => D.int k) (fun _ => false) (fun k => D.int k) (rng (t : Int) (S.length - t)) (by
      simp only [itR2, run_r, seq_r, cont_nx, cont_rt, cont_bk, cont_ct, if_r, sel_t, sel_f, ife_r, sele_t, sele_f, and_r, or_r, sela_t, sela_f, selo_t, selo_f, out_rt, out_rtl, out_rtO, out_nx, setD, setO, retS, retO, retV, retN, nilS, fgt, isB, truB, truD, notB, orV, andV, notV, b1, b2, bA, aC, aN, vr, vw, cst, nth, sset, bnd_r, opt_s, cond_true, cond_false, eTup_0, eTup_1, eTup_2, eTup_3, eLst_0, eLst_1, eLst_2, eLst_3, callE, mkE, List.replicate_succ, List.replicate_zero, List.length_cons, List.length_nil, List.length_map, if_true, if_false, Nat.reduceAdd, Nat.reduceSub, Bool.false_and, Bool.and_true, Bool.true_and, Bool.and_false, Bool.not_true, Bool.not_false, Bool.true_or, Bool.or_true, Bool.false_or, Bool.or_false, reduceIte, Bool.false_eq_true, dGt, dLt, dGe, dLe, dCmp, dSub, dNeg, aLen, seqD_tup, seqD_lst, seqD_T, Option.map_some, dIsN, dNotN, isNonD_non, isNonD_bl, isNonD_int, isNonD_str, isNonD_tup, isNonD_lst, isNonD_T, forL_nil, forL_cons, loop_nx, loop_ct, loop_bk, loop_rt, frzS, frzE, appS, parS, dSub_ii, tab_len]
      rw [rg2_rng (by omega) (by omega) (by omega) (by omega), opt_s, show (((S.length + 1 : Nat) : Int) - 1 - (t : Int)).toNat = S.length - t by omega]) (by rw [rng_len]; omega) fun k hk => ⟨_, rfl, by
        have hk := mem_rng.mp hk
        have x1 := tab_ix (n := S.length + 1) (f := tl S) (v := k) (by omega) (by omega)
        have x2 := tab_ix (n := S.length + 1) (f := tl S) (v := k + 1) (by omega) (by omega)
        rw [show (k + 1).toNat = k.toNat + 1 by omega] at x2
        have le : ¬ (tl S k.toNat < tl S (k.toNat + 1)) := by have := t5 k.toNat (by omega) (by omega); omega
        simp only [run_r, seq_r, cont_nx, cont_rt, cont_bk, cont_ct, if_r, sel_t, sel_f, ife_r, sele_t, sele_f, and_r, or_r, sela_t, sela_f, selo_t, selo_f, out_rt, out_rtl, out_rtO, out_nx, setD, setO, retS, retO, retV, retN, nilS, fgt, isB, truB, truD, notB, orV, andV, notV, b1, b2, bA, aC, aN, vr, vw, cst, nth, sset, bnd_r, opt_s, cond_true, cond_false, eTup_0, eTup_1, eTup_2, eTup_3, eLst_0, eLst_1, eLst_2, eLst_3, callE, mkE, List.replicate_succ, List.replicate_zero, List.length_cons, List.length_nil, List.length_map, if_true, if_false, Nat.reduceAdd, Nat.reduceSub, Bool.false_and, Bool.and_true, Bool.true_and, Bool.and_false, Bool.not_true, Bool.not_false, Bool.true_or, Bool.or_true, Bool.false_or, Bool.or_false, reduceIte, Bool.false_eq_true, dGt, dLt, dGe, dLe, dCmp, dSub, dNeg, aLen, seqD_tup, seqD_lst, seqD_T, Option.map_some, dIsN, dNotN, isNonD_non, isNonD_bl, isNonD_int, isNonD_str, isNonD_tup, isNonD_lst, isNonD_T, forL_nil, forL_cons, loop_nx, loop_ct, loop_bk, loop_rt, frzS, frzE, appS, parS, fgt, dAdd_ii, x1, x2, le, decide_false], fun e => by cases e⟩
    rw [h, none_f]; rfl
  have e0 : dNe (.lst []) (.lst []) = some (.bl false) := rfl
  refine tr_seq' (fun ρ => ρ = Ev (.d d) (.d (TN S)) sz .un (.d (Cd (rwF S))) .un .un (.d (TN r)) .un (.d (.int (t : Int))) (.d (.lst (tab (S.length + 1) (tl S))))) (tr_nx (by simp only [run_r, seq_r, cont_nx, cont_rt, cont_bk, cont_ct, if_r, sel_t, sel_f, ife_r, sele_t, sele_f, and_r, or_r, sela_t, sela_f, selo_t, selo_f, out_rt, out_rtl, out_rtO, out_nx, setD, setO, retS, retO, retV, retN, nilS, fgt, isB, truB, truD, notB, orV, andV, notV, b1, b2, bA, aC, aN, vr, vw, cst, nth, sset, bnd_r, opt_s, cond_true, cond_false, eTup_0, eTup_1, eTup_2, eTup_3, eLst_0, eLst_1, eLst_2, eLst_3, callE, mkE, List.replicate_succ, List.replicate_zero, List.length_cons, List.length_nil, List.length_map, if_true, if_false, Nat.reduceAdd, Nat.reduceSub, Bool.false_and, Bool.and_true, Bool.true_and, Bool.and_false, Bool.not_true, Bool.not_false, Bool.true_or, Bool.or_true, Bool.false_or, Bool.or_false, reduceIte, Bool.false_eq_true, dGt, dLt, dGe, dLe, dCmp, dSub, dNeg, aLen, seqD_tup, seqD_lst, seqD_T, Option.map_some, dIsN, dNotN, isNonD_non, isNonD_bl, isNonD_int, isNonD_str, isNonD_tup, isNonD_lst, isNonD_T, forL_nil, forL_cons, loop_nx, loop_ct, loop_bk, loop_rt, frzS, frzE, appS, parS, c3, c2, e0]) rfl) ?_
  rintro _ rfl
  exact tr_nx (by simp only [run_r, seq_r, cont_nx, cont_rt, cont_bk, cont_ct, if_r, sel_t, sel_f, ife_r, sele_t, sele_f, and_r, or_r, sela_t, sela_f, selo_t, selo_f, out_rt, out_rtl, out_rtO, out_nx, setD, setO, retS, retO, retV, retN, nilS, fgt, isB, truB, truD, notB, orV, andV, notV, b1, b2, bA, aC, aN, vr, vw, cst, nth, sset, bnd_r, opt_s, cond_true, cond_false, eTup_0, eTup_1, eTup_2, eTup_3, eLst_0, eLst_1, eLst_2, eLst_3, callE, mkE, List.replicate_succ, List.replicate_zero, List.length_cons, List.length_nil, List.length_map, if_true, if_false, Nat.reduceAdd, Nat.reduceSub, Bool.false_and, Bool.and_true, Bool.true_and, Bool.and_false, Bool.not_true, Bool.not_false, Bool.true_or, Bool.or_true, Bool.false_or, Bool.or_false, reduceIte, Bool.false_eq_true, dGt, dLt, dGe, dLe, dCmp, dSub, dNeg, aLen, seqD_tup, seqD_lst, seqD_T, Option.map_some, dIsN, dNotN, isNonD_non, isNonD_bl, isNonD_int, isNonD_str, isNonD_tup, isNonD_lst, isNonD_T, forL_nil, forL_cons, loop_nx, loop_ct, loop_bk, loop_rt, frzS, frzE, appS, parS] <;> rfl) rfl
/-- Euler -/
abbrev Eu (n : Nat) (x13 x14 : SV) : FL.Env := [.un, .d .tok, .un, .un, .un, .un, .un, .un, .un, .un, .un, .un, .d (.int (n : Int)), x13, x14, .un, .un, .un]
theorem fl_le (n : Nat) (o : List Nat) : fl n o ≤ n := by
  unfold fl
  have := List.length_filter_le (fun k => decide (o.getD (k + 1) 0 < o.getD k 0)) (List.range (n - 1))
  rw [List.length_range] at this
  omega
theorem euler_loop {n : Nat} (h1 : 1 ≤ n) (hn : n ≤ 5) :
    forS (itS (callE m__law_orders (aC (vr 12) aN))) (gN 14) b_law_6 (Eu n (.o (.lst (tab (n + 1) fun _ => 0))) .un) = ret (.nx (Eu n (.o (.lst (tab (n + 1) (tl (up1 n))))) .un)) := by
  have ho := orders_eq hn
  have ok := ord_ok hn
  have lp := LbD.forF (it := itS (callE m__law_orders (aC (vr 12) aN))) (b := gN 14) (body := b_law_6) (fun f => Eu n (.o (.lst (tab (n + 1) f))) .un) (fun (f : Nat → Int) (o : List Nat) => fun i => if i = fl n o then f (fl n o) + 1 else f i) (fun _ => True) (s0 := fun _ => 0) (ordN n) TN (by simp only [itS, run_r, seq_r, cont_nx, cont_rt, cont_bk, cont_ct, if_r, sel_t, sel_f, ife_r, sele_t, sele_f, and_r, or_r, sela_t, sela_f, selo_t, selo_f, out_rt, out_rtl, out_rtO, out_nx, setD, setO, retS, retO, retV, retN, nilS, fgt, isB, truB, truD, notB, orV, andV, notV, b1, b2, bA, aC, aN, vr, vw, cst, nth, sset, bnd_r, opt_s, cond_true, cond_false, eTup_0, eTup_1, eTup_2, eTup_3, eLst_0, eLst_1, eLst_2, eLst_3, callE, mkE, List.replicate_succ, List.replicate_zero, List.length_cons, List.length_nil, List.length_map, if_true, if_false, Nat.reduceAdd, Nat.reduceSub, Bool.false_and, Bool.and_true, Bool.true_and, Bool.and_false, Bool.not_true, Bool.not_false, Bool.true_or, Bool.or_true, Bool.false_or, Bool.or_false, reduceIte, Bool.false_eq_true, dGt, dLt, dGe, dLe, dCmp, dSub, dNeg, aLen, seqD_tup, seqD_lst, seqD_T, Option.map_some, dIsN, dNotN, isNonD_non, isNonD_bl, isNonD_int, isNonD_str, isNonD_tup, isNonD_lst, isNonD_T, forL_nil, forL_cons, loop_nx, loop_ct, loop_bk, loop_rt, frzS, frzE, appS, parS, ho]; unfold Cd; simp only [run_r, seq_r, cont_nx, cont_rt, cont_bk, cont_ct, if_r, sel_t, sel_f, ife_r, sele_t, sele_f, and_r, or_r, sela_t, sela_f, selo_t, selo_f, out_rt, out_rtl, out_rtO, out_nx, setD, setO, retS, retO, retV, retN, nilS, fgt, isB, truB, truD, notB, orV, andV, notV, b1, b2, bA, aC, aN, vr, vw, cst, nth, sset, bnd_r, opt_s, cond_true, cond_false, eTup_0, eTup_1, eTup_2, eTup_3, eLst_0, eLst_1, eLst_2, eLst_3, callE, mkE, List.replicate_succ, List.replicate_zero, List.length_cons, List.length_nil, List.length_map, if_true, if_false, Nat.reduceAdd, Nat.reduceSub, Bool.false_and, Bool.and_true, Bool.true_and, Bool.and_false, Bool.not_true, Bool.not_false, Bool.true_or, Bool.or_true, Bool.false_or, Bool.or_false, reduceIte, Bool.false_eq_true, dGt, dLt, dGe, dLe, dCmp, dSub, dNeg, aLen, seqD_tup, seqD_lst, seqD_T, Option.map_some, dIsN, dNotN, isNonD_non, isNonD_bl, isNonD_int, isNonD_str, isNonD_tup, isNonD_lst, isNonD_T, forL_nil, forL_cons, loop_nx, loop_ct, loop_bk, loop_rt, frzS, frzE, appS, parS]) trivial (fun o hO f _ => by
    refine ⟨_, rfl, ?_, trivial⟩
    have hlo := ok.2 o hO
    have hf := fl_le n o
    have x1 := tab_ix (n := n + 1) (f := f) (v := ((fl n o : Nat) : Int)) (by omega) (by omega)
    rw [Int.toNat_natCast] at x1
    have x2 := tab_setIO (n := n + 1) (f := f) (t := fl n o) (v := f (fl n o) + 1) (by omega)
    have hc : c_law_4 (Eu n (.o (.lst (tab (n + 1) f))) (.d (TN o))) = ret (.lst (((List.range (n - 1)).filter fun k => decide (o.getD (k + 1) 0 < o.getD k 0)).map fun k : Nat => D.int (k : Int))) := by
      unfold c_law_4
      refine lcFil (fun k : Nat => D.int (k : Int)) (fun k => decide (o.getD (k + 1) 0 < o.getD k 0)) (fun k => D.int (k : Int)) (List.range (n - 1)) (by
        simp only [itR1, run_r, seq_r, cont_nx, cont_rt, cont_bk, cont_ct, if_r, sel_t, sel_f, ife_r, sele_t, sele_f, and_r, or_r, sela_t, sela_f, selo_t, selo_f, out_rt, out_rtl, out_rtO, out_nx, setD, setO, retS, retO, retV, retN, nilS, fgt, isB, truB, truD, notB, orV, andV, notV, b1, b2, bA, aC, aN, vr, vw, cst, nth, sset, bnd_r, opt_s, cond_true, cond_false, eTup_0, eTup_1, eTup_2, eTup_3, eLst_0, eLst_1, eLst_2, eLst_3, callE, mkE, List.replicate_succ, List.replicate_zero, List.length_cons, List.length_nil, List.length_map, if_true, if_false, Nat.reduceAdd, Nat.reduceSub, Bool.false_and, Bool.and_true, Bool.true_and, Bool.and_false, Bool.not_true, Bool.not_false, Bool.true_or, Bool.or_true, Bool.false_or, Bool.or_false, reduceIte, Bool.false_eq_true, dGt, dLt, dGe, dLe, dCmp, dSub, dNeg, aLen, seqD_tup, seqD_lst, seqD_T, Option.map_some, dIsN, dNotN, isNonD_non, isNonD_bl, isNonD_int, isNonD_str, isNonD_tup, isNonD_lst, isNonD_T, forL_nil, forL_cons, loop_nx, loop_ct, loop_bk, loop_rt, frzS, frzE, appS, parS, dSub_ii]
        rw [show (n : Int) - 1 = ((n - 1 : Nat) : Int) by omega, rg1_nat (by omega), opt_s]) (by rw [List.length_range]; omega) fun k hk => ⟨_, rfl, ?_, fun _ => by simp only [run_r, seq_r, cont_nx, cont_rt, cont_bk, cont_ct, if_r, sel_t, sel_f, ife_r, sele_t, sele_f, and_r, or_r, sela_t, sela_f, selo_t, selo_f, out_rt, out_rtl, out_rtO, out_nx, setD, setO, retS, retO, retV, retN, nilS, fgt, isB, truB, truD, notB, orV, andV, notV, b1, b2, bA, aC, aN, vr, vw, cst, nth, sset, bnd_r, opt_s, cond_true, cond_false, eTup_0, eTup_1, eTup_2, eTup_3, eLst_0, eLst_1, eLst_2, eLst_3, callE, mkE, List.replicate_succ, List.replicate_zero, List.length_cons, List.length_nil, List.length_map, if_true, if_false, Nat.reduceAdd, Nat.reduceSub, Bool.false_and, Bool.and_true, Bool.true_and, Bool.and_false, Bool.not_true, Bool.not_false, Bool.true_or, Bool.or_true, Bool.false_or, Bool.or_false, reduceIte, Bool.false_eq_true, dGt, dLt, dGe, dLe, dCmp, dSub, dNeg, aLen, seqD_tup, seqD_lst, seqD_T, Option.map_some, dIsN, dNotN, isNonD_non, isNonD_bl, isNonD_int, isNonD_str, isNonD_tup, isNonD_lst, isNonD_T, forL_nil, forL_cons, loop_nx, loop_ct, loop_bk, loop_rt, frzS, frzE, appS, parS]⟩
      have hk := List.mem_range.mp hk
      have y1 := ixN (r := o) (k := k) (by omega)
      have y2 := ixN (r := o) (k := k + 1) (by omega)
      rw [show ((k + 1 : Nat) : Int) = (k : Int) + 1 by omega] at y2
      have e : decide (((o.getD k 0 : Nat) : Int) > ((o.getD (k + 1) 0 : Nat) : Int)) = decide (o.getD (k + 1) 0 < o.getD k 0) := by
        by_cases g : o.getD (k + 1) 0 < o.getD k 0
        · rw [decide_eq_true g, decide_eq_true (by omega)]
        · rw [decide_eq_false g, decide_eq_false (by omega)]
      simp only [run_r, seq_r, cont_nx, cont_rt, cont_bk, cont_ct, if_r, sel_t, sel_f, ife_r, sele_t, sele_f, and_r, or_r, sela_t, sela_f, selo_t, selo_f, out_rt, out_rtl, out_rtO, out_nx, setD, setO, retS, retO, retV, retN, nilS, fgt, isB, truB, truD, notB, orV, andV, notV, b1, b2, bA, aC, aN, vr, vw, cst, nth, sset, bnd_r, opt_s, cond_true, cond_false, eTup_0, eTup_1, eTup_2, eTup_3, eLst_0, eLst_1, eLst_2, eLst_3, callE, mkE, List.replicate_succ, List.replicate_zero, List.length_cons, List.length_nil, List.length_map, if_true, if_false, Nat.reduceAdd, Nat.reduceSub, Bool.false_and, Bool.and_true, Bool.true_and, Bool.and_false, Bool.not_true, Bool.not_false, Bool.true_or, Bool.or_true, Bool.false_or, Bool.or_false, reduceIte, Bool.false_eq_true, dGt, dLt, dGe, dLe, dCmp, dSub, dNeg, aLen, seqD_tup, seqD_lst, seqD_T, Option.map_some, dIsN, dNotN, isNonD_non, isNonD_bl, isNonD_int, isNonD_str, isNonD_tup, isNonD_lst, isNonD_T, forL_nil, forL_cons, loop_nx, loop_ct, loop_bk, loop_rt, frzS, frzE, appS, parS, fgt, dAdd_ii, y1, y2, e]
    have hl : (((List.range (n - 1)).filter fun k => decide (o.getD (k + 1) 0 < o.getD k 0)).map fun k : Nat => D.int (k : Int)).length = fl n o := by rw [List.length_map]; rfl
    unfold b_law_6
    simp only [run_r, seq_r, cont_nx, cont_rt, cont_bk, cont_ct, if_r, sel_t, sel_f, ife_r, sele_t, sele_f, and_r, or_r, sela_t, sela_f, selo_t, selo_f, out_rt, out_rtl, out_rtO, out_nx, setD, setO, retS, retO, retV, retN, nilS, fgt, isB, truB, truD, notB, orV, andV, notV, b1, b2, bA, aC, aN, vr, vw, cst, nth, sset, bnd_r, opt_s, cond_true, cond_false, eTup_0, eTup_1, eTup_2, eTup_3, eLst_0, eLst_1, eLst_2, eLst_3, callE, mkE, List.replicate_succ, List.replicate_zero, List.length_cons, List.length_nil, List.length_map, if_true, if_false, Nat.reduceAdd, Nat.reduceSub, Bool.false_and, Bool.and_true, Bool.true_and, Bool.and_false, Bool.not_true, Bool.not_false, Bool.true_or, Bool.or_true, Bool.false_or, Bool.or_false, reduceIte, Bool.false_eq_true, dGt, dLt, dGe, dLe, dCmp, dSub, dNeg, aLen, seqD_tup, seqD_lst, seqD_T, Option.map_some, dIsN, dNotN, isNonD_non, isNonD_bl, isNonD_int, isNonD_str, isNonD_tup, isNonD_lst, isNonD_T, forL_nil, forL_cons, loop_nx, loop_ct, loop_bk, loop_rt, frzS, frzE, appS, parS, setIS, hc]
    rw [show ((List.range (n - 1)).filter fun k => decide (o.getD (k + 1) 0 < o.getD k 0)).length = fl n o from rfl]
    simp only [run_r, seq_r, cont_nx, cont_rt, cont_bk, cont_ct, if_r, sel_t, sel_f, ife_r, sele_t, sele_f, and_r, or_r, sela_t, sela_f, selo_t, selo_f, out_rt, out_rtl, out_rtO, out_nx, setD, setO, retS, retO, retV, retN, nilS, fgt, isB, truB, truD, notB, orV, andV, notV, b1, b2, bA, aC, aN, vr, vw, cst, nth, sset, bnd_r, opt_s, cond_true, cond_false, eTup_0, eTup_1, eTup_2, eTup_3, eLst_0, eLst_1, eLst_2, eLst_3, callE, mkE, List.replicate_succ, List.replicate_zero, List.length_cons, List.length_nil, List.length_map, if_true, if_false, Nat.reduceAdd, Nat.reduceSub, Bool.false_and, Bool.and_true, Bool.true_and, Bool.and_false, Bool.not_true, Bool.not_false, Bool.true_or, Bool.or_true, Bool.false_or, Bool.or_false, reduceIte, Bool.false_eq_true, dGt, dLt, dGe, dLe, dCmp, dSub, dNeg, aLen, seqD_tup, seqD_lst, seqD_T, Option.map_some, dIsN, dNotN, isNonD_non, isNonD_bl, isNonD_int, isNonD_str, isNonD_tup, isNonD_lst, isNonD_T, forL_nil, forL_cons, loop_nx, loop_ct, loop_bk, loop_rt, frzS, frzE, appS, parS, x1, x2, dAdd_ii])
  have e : tab (n + 1) ((ordN n).foldl (fun (f : Nat → Int) (o : List Nat) => fun i => if i = fl n o then f (fl n o) + 1 else f i) fun _ => 0) = tab (n + 1) (tl (up1 n)) := tab_congr fun m hm => by
    rw [told_fold (fl n) m, Int.zero_add]
    exact eu_ok h1 hn (by omega)
  have lp := lp.1
  rw [e] at lp
  exact lp
theorem law_true : Tr (m_law m_start) isTrue' := by
  show Tr (m_law (Ev .un .un .un .un .un .un .un .un .un .un .un)) isTrue'
  unfold m_law
  refine tr_seq' (fun ρ => ρ = Ev .un .un .un .un .un .un .un .un .un .un .un) ?_ ?_
  · refine tr_same (n := 2) (by simp only [itR1, run_r, seq_r, cont_nx, cont_rt, cont_bk, cont_ct, if_r, sel_t, sel_f, ife_r, sele_t, sele_f, and_r, or_r, sela_t, sela_f, selo_t, selo_f, out_rt, out_rtl, out_rtO, out_nx, setD, setO, retS, retO, retV, retN, nilS, fgt, isB, truB, truD, notB, orV, andV, notV, b1, b2, bA, aC, aN, vr, vw, cst, nth, sset, bnd_r, opt_s, cond_true, cond_false, eTup_0, eTup_1, eTup_2, eTup_3, eLst_0, eLst_1, eLst_2, eLst_3, callE, mkE, List.replicate_succ, List.replicate_zero, List.length_cons, List.length_nil, List.length_map, if_true, if_false, Nat.reduceAdd, Nat.reduceSub, Bool.false_and, Bool.and_true, Bool.true_and, Bool.and_false, Bool.not_true, Bool.not_false, Bool.true_or, Bool.or_true, Bool.false_or, Bool.or_false, reduceIte, Bool.false_eq_true, dGt, dLt, dGe, dLe, dCmp, dSub, dNeg, aLen, seqD_tup, seqD_lst, seqD_T, Option.map_some, dIsN, dNotN, isNonD_non, isNonD_bl, isNonD_int, isNonD_str, isNonD_tup, isNonD_lst, isNonD_T, forL_nil, forL_cons, loop_nx, loop_ct, loop_bk, loop_rt, frzS, frzE, appS, parS]; rfl) rfl fun d ρ h => ?_
    subst h
    exact ⟨_, rfl, body5⟩
  rintro _ rfl
  refine tr_seq' (fun ρ => ∃ n : Nat, (1 ≤ n ∧ n ≤ 5) ∧ ρ = Eu n .un .un) ?_ ?_
  · simp only [run_r, seq_r, cont_nx, cont_rt, cont_bk, cont_ct, if_r, sel_t, sel_f, ife_r, sele_t, sele_f, and_r, or_r, sela_t, sela_f, selo_t, selo_f, out_rt, out_rtl, out_rtO, out_nx, setD, setO, retS, retO, retV, retN, nilS, fgt, isB, truB, truD, notB, orV, andV, notV, b1, b2, bA, aC, aN, vr, vw, cst, nth, sset, bnd_r, opt_s, cond_true, cond_false, eTup_0, eTup_1, eTup_2, eTup_3, eLst_0, eLst_1, eLst_2, eLst_3, callE, mkE, List.replicate_succ, List.replicate_zero, List.length_cons, List.length_nil, List.length_map, if_true, if_false, Nat.reduceAdd, Nat.reduceSub, Bool.false_and, Bool.and_true, Bool.true_and, Bool.and_false, Bool.not_true, Bool.not_false, Bool.true_or, Bool.or_true, Bool.false_or, Bool.or_false, reduceIte, Bool.false_eq_true, dGt, dLt, dGe, dLe, dCmp, dSub, dNeg, aLen, seqD_tup, seqD_lst, seqD_T, Option.map_some, dIsN, dNotN, isNonD_non, isNonD_bl, isNonD_int, isNonD_str, isNonD_tup, isNonD_lst, isNonD_T, forL_nil, forL_cons, loop_nx, loop_ct, loop_bk, loop_rt, frzS, frzE, appS, parS, bnd_assoc]
    refine tr_drawN (by decide) (by decide) fun v hv => ?_
    simp only [run_r, seq_r, cont_nx, cont_rt, cont_bk, cont_ct, if_r, sel_t, sel_f, ife_r, sele_t, sele_f, and_r, or_r, sela_t, sela_f, selo_t, selo_f, out_rt, out_rtl, out_rtO, out_nx, setD, setO, retS, retO, retV, retN, nilS, fgt, isB, truB, truD, notB, orV, andV, notV, b1, b2, bA, aC, aN, vr, vw, cst, nth, sset, bnd_r, opt_s, cond_true, cond_false, eTup_0, eTup_1, eTup_2, eTup_3, eLst_0, eLst_1, eLst_2, eLst_3, callE, mkE, List.replicate_succ, List.replicate_zero, List.length_cons, List.length_nil, List.length_map, if_true, if_false, Nat.reduceAdd, Nat.reduceSub, Bool.false_and, Bool.and_true, Bool.true_and, Bool.and_false, Bool.not_true, Bool.not_false, Bool.true_or, Bool.or_true, Bool.false_or, Bool.or_false, reduceIte, Bool.false_eq_true, dGt, dLt, dGe, dLe, dCmp, dSub, dNeg, aLen, seqD_tup, seqD_lst, seqD_T, Option.map_some, dIsN, dNotN, isNonD_non, isNonD_bl, isNonD_int, isNonD_str, isNonD_tup, isNonD_lst, isNonD_T, forL_nil, forL_cons, loop_nx, loop_ct, loop_bk, loop_rt, frzS, frzE, appS, parS, dAdd_ii]
    exact Tr.ret ⟨_, rfl, v + 1, by omega, by unfold Eu; rw [show ((v + 1 : Nat) : Int) = 1 + (v : Int) by omega]⟩
  rintro _ ⟨n, ⟨h1, hn⟩, rfl⟩
  have n1 : ((n : Int) + 1) = ((n + 1 : Nat) : Int) := rfl
  have rp := LbB.rep_tab (k := n + 1) (by omega)
  refine tr_seq' (fun ρ => ρ = Eu n (.o (.lst (tab (n + 1) fun _ => 0))) .un) (tr_nx (by simp only [run_r, seq_r, cont_nx, cont_rt, cont_bk, cont_ct, if_r, sel_t, sel_f, ife_r, sele_t, sele_f, and_r, or_r, sela_t, sela_f, selo_t, selo_f, out_rt, out_rtl, out_rtO, out_nx, setD, setO, retS, retO, retV, retN, nilS, fgt, isB, truB, truD, notB, orV, andV, notV, b1, b2, bA, aC, aN, vr, vw, cst, nth, sset, bnd_r, opt_s, cond_true, cond_false, eTup_0, eTup_1, eTup_2, eTup_3, eLst_0, eLst_1, eLst_2, eLst_3, callE, mkE, List.replicate_succ, List.replicate_zero, List.length_cons, List.length_nil, List.length_map, if_true, if_false, Nat.reduceAdd, Nat.reduceSub, Bool.false_and, Bool.and_true, Bool.true_and, Bool.and_false, Bool.not_true, Bool.not_false, Bool.true_or, Bool.or_true, Bool.false_or, Bool.or_false, reduceIte, Bool.false_eq_true, dGt, dLt, dGe, dLe, dCmp, dSub, dNeg, aLen, seqD_tup, seqD_lst, seqD_T, Option.map_some, dIsN, dNotN, isNonD_non, isNonD_bl, isNonD_int, isNonD_str, isNonD_tup, isNonD_lst, isNonD_T, forL_nil, forL_cons, loop_nx, loop_ct, loop_bk, loop_rt, frzS, frzE, appS, parS, dAdd_ii, n1, rp]) rfl) ?_
  rintro _ rfl
  refine tr_seq' (fun ρ => ρ = Eu n (.o (.lst (tab (n + 1) (tl (up1 n))))) .un) (tr_nx (euler_loop h1 hn) rfl) ?_
  rintro _ rfl
  have hlen : (P59.up1 n).length = n := by unfold P59.up1; simp
  have r1 := K59.rise_eq (S := up1 n) (by omega) (by omega) (fun s hs => by
    unfold P59.up1 at hs
    obtain ⟨k, hk, rfl⟩ := List.mem_map.mp hs
    have := List.mem_range.mp hk; omega)
  rw [← rn_same, up1_sI, hlen] at r1
  have tr : tupR2 (cst (.int 1)) (b2 dAdd (vw 12) (cst (.int 1))) (Eu n (.o (.lst (tab (n + 1) (tl (up1 n))))) .un) = ret (T (rng 1 n)) := LbV.tupR_eq rfl (by simp only [run_r, seq_r, cont_nx, cont_rt, cont_bk, cont_ct, if_r, sel_t, sel_f, ife_r, sele_t, sele_f, and_r, or_r, sela_t, sela_f, selo_t, selo_f, out_rt, out_rtl, out_rtO, out_nx, setD, setO, retS, retO, retV, retN, nilS, fgt, isB, truB, truD, notB, orV, andV, notV, b1, b2, bA, aC, aN, vr, vw, cst, nth, sset, bnd_r, opt_s, cond_true, cond_false, eTup_0, eTup_1, eTup_2, eTup_3, eLst_0, eLst_1, eLst_2, eLst_3, callE, mkE, List.replicate_succ, List.replicate_zero, List.length_cons, List.length_nil, List.length_map, if_true, if_false, Nat.reduceAdd, Nat.reduceSub, Bool.false_and, Bool.and_true, Bool.true_and, Bool.and_false, Bool.not_true, Bool.not_false, Bool.true_or, Bool.or_true, Bool.false_or, Bool.or_false, reduceIte, Bool.false_eq_true, dGt, dLt, dGe, dLe, dCmp, dSub, dNeg, aLen, seqD_tup, seqD_lst, seqD_T, Option.map_some, dIsN, dNotN, isNonD_non, isNonD_bl, isNonD_int, isNonD_str, isNonD_tup, isNonD_lst, isNonD_T, forL_nil, forL_cons, loop_nx, loop_ct, loop_bk, loop_rt, frzS, frzE, appS, parS, dAdd_ii]) (by omega)
  have r2 : m__law_eq 60 [.lst (tab (n + 1) (tl (up1 n))), .lst (tab (n + 1) (tl (up1 n)))] = ret (.bl true) := leqD leq_eq (gdTab _ (by omega) _)
  have s1 : dSl (.lst (tab (n + 1) (tl (up1 n)))) none (some (n : Int)) = some (.lst (((List.range n).map (tl (up1 n))).map .int)) := by
    rw [slL_to, tab_map, ← List.map_take, ← List.map_take, List.take_range, Nat.min_eq_left (by omega)]
  have s2 : dRev (.lst (((List.range n).map (tl (up1 n))).map .int)) = some (.lst (((List.range n).map (tl (up1 n))).map .int)) := by
    show some (D.lst (((List.range n).map (tl (up1 n))).map .int).reverse) = _
    rw [← List.map_reverse, mir_ok hn]
  have s3 := dEq_self (okdI ((List.range n).map (tl (up1 n))))
  refine tr_seq' (fun ρ => ρ = [.un, .d .tok, .un, .un, .un, .un, .un, .un, .un, .un, .un, .un, .d (.int (n : Int)), .o (.lst (tab (n + 1) (tl (up1 n)))), .un, .un, .d (.lst (tab (n + 1) (tl (up1 n)))), .un]) (tr_nx (by simp only [run_r, seq_r, cont_nx, cont_rt, cont_bk, cont_ct, if_r, sel_t, sel_f, ife_r, sele_t, sele_f, and_r, or_r, sela_t, sela_f, selo_t, selo_f, out_rt, out_rtl, out_rtO, out_nx, setD, setO, retS, retO, retV, retN, nilS, fgt, isB, truB, truD, notB, orV, andV, notV, b1, b2, bA, aC, aN, vr, vw, cst, nth, sset, bnd_r, opt_s, cond_true, cond_false, eTup_0, eTup_1, eTup_2, eTup_3, eLst_0, eLst_1, eLst_2, eLst_3, callE, mkE, List.replicate_succ, List.replicate_zero, List.length_cons, List.length_nil, List.length_map, if_true, if_false, Nat.reduceAdd, Nat.reduceSub, Bool.false_and, Bool.and_true, Bool.true_and, Bool.and_false, Bool.not_true, Bool.not_false, Bool.true_or, Bool.or_true, Bool.false_or, Bool.or_false, reduceIte, Bool.false_eq_true, dGt, dLt, dGe, dLe, dCmp, dSub, dNeg, aLen, seqD_tup, seqD_lst, seqD_T, Option.map_some, dIsN, dNotN, isNonD_non, isNonD_bl, isNonD_int, isNonD_str, isNonD_tup, isNonD_lst, isNonD_T, forL_nil, forL_cons, loop_nx, loop_ct, loop_bk, loop_rt, frzS, frzE, appS, parS, tr, r1]) rfl) ?_
  rintro _ rfl
  simp only [frzS, frzE, run_r, seq_r, cont_nx, cont_rt, cont_bk, cont_ct, if_r, sel_t, sel_f, ife_r, sele_t, sele_f, and_r, or_r, sela_t, sela_f, selo_t, selo_f, out_rt, out_rtl, out_rtO, out_nx, setD, setO, retS, retO, retV, retN, nilS, fgt, isB, truB, truD, notB, orV, andV, notV, b1, b2, bA, aC, aN, vr, vw, cst, nth, sset, bnd_r, opt_s, cond_true, cond_false, eTup_0, eTup_1, eTup_2, eTup_3, eLst_0, eLst_1, eLst_2, eLst_3, callE, mkE, List.replicate_succ, List.replicate_zero, List.length_cons, List.length_nil, List.length_map, if_true, if_false, Nat.reduceAdd, Nat.reduceSub, Bool.false_and, Bool.and_true, Bool.true_and, Bool.and_false, Bool.not_true, Bool.not_false, Bool.true_or, Bool.or_true, Bool.false_or, Bool.or_false, reduceIte, Bool.false_eq_true, dGt, dLt, dGe, dLe, dCmp, dSub, dNeg, aLen, seqD_tup, seqD_lst, seqD_T, Option.map_some, dIsN, dNotN, isNonD_non, isNonD_bl, isNonD_int, isNonD_str, isNonD_tup, isNonD_lst, isNonD_T, forL_nil, forL_cons, loop_nx, loop_ct, loop_bk, loop_rt, frzS, frzE, appS, parS, r2, slE, oS, oN, s1, s2, s3]
  exact Tr.ret trivial
end K58
end
section
namespace K58
open PySem PySem.Spec PyProof.Rows L2 FL
def topS (i : Nat) : Stmt := PySem.Challenge.pw_sumwright_k58_index_rows_and_rises.main.body.getD i (.Pass ⟨0, 0, 0, 0⟩)
abbrev s_index_rows : Stmt := topS 1
abbrev s_rises : Stmt := topS 2
abbrev s_rise_numbers : Stmt := topS 3
abbrev s__law_state : Stmt := topS 5
abbrev s__law_draw : Stmt := topS 6
abbrev s__law_pick : Stmt := topS 7
abbrev s__law_eq : Stmt := topS 8
abbrev s__law_rises : Stmt := topS 9
abbrev s__law_orders : Stmt := topS 10
abbrev s_law : Stmt := topS 11
theorem sc_index_rows : FnScope ["steps", "found", "step", "row", "x"] ["steps"] (defScope s_index_rows) := ⟨rfl, rfl, rfl, by decide +kernel, rfl, by decide +kernel, by decide +kernel⟩
theorem sc_rises : FnScope ["steps", "row", "told", "at"] ["steps", "row"] (defScope s_rises) := ⟨rfl, rfl, rfl, by decide +kernel, rfl, by decide +kernel, by decide +kernel⟩
theorem sc_rise_numbers : FnScope ["steps", "here", "x", "key", "at", "after", "last", "told", "_", "many", "ways"] ["steps"] (defScope s_rise_numbers) := ⟨rfl, rfl, rfl, by decide +kernel, rfl, by decide +kernel, by decide +kernel⟩
theorem sc__law_state : FnScope ["script", "seed", "cell"] ["script"] (defScope s__law_state) := ⟨rfl, rfl, rfl, by decide +kernel, rfl, by decide +kernel, by decide +kernel⟩
theorem sc__law_draw : FnScope ["state", "many", "cells", "value", "mixed"] ["state", "many"] (defScope s__law_draw) := ⟨rfl, rfl, rfl, by decide +kernel, rfl, by decide +kernel, by decide +kernel⟩
theorem sc__law_pick : FnScope ["state", "row"] ["state", "row"] (defScope s__law_pick) := ⟨rfl, rfl, rfl, by decide +kernel, rfl, by decide +kernel, by decide +kernel⟩
theorem sc__law_eq : FnScope ["told", "due", "k"] ["told", "due"] (defScope s__law_eq) := ⟨rfl, rfl, rfl, by decide +kernel, rfl, by decide +kernel, by decide +kernel⟩
theorem sc__law_rises : FnScope ["steps", "row", "told", "k"] ["steps", "row"] (defScope s__law_rises) := ⟨rfl, rfl, rfl, by decide +kernel, rfl, by decide +kernel, by decide +kernel⟩
theorem sc__law_orders : FnScope ["n", "found", "k", "longer", "row", "j"] ["n"] (defScope s__law_orders) := ⟨rfl, rfl, rfl, by decide +kernel, rfl, by decide +kernel, by decide +kernel⟩
theorem sc_law : FnScope ["script", "state", "turn", "steps", "size", "k", "every", "x", "longer", "row", "here", "top", "n", "euler", "order", "falls", "told", "e"] ["script"] (defScope s_law) := ⟨rfl, rfl, rfl, by decide +kernel, rfl, by decide +kernel, by decide +kernel⟩
structure Tx (K : PySem.W.Frag) (mg : Str → Option Value) (base : Heap) where
  a_index_rows : Addr
  d_index_rows : FuncData
  F_index_rows : Fun K "index_rows" "index_rows" s_index_rows a_index_rows d_index_rows
  b_index_rows : L2.Binds K d_index_rows ["steps"] []
  g_index_rows : mg "index_rows" = some (.ref a_index_rows)
  a_rises : Addr
  d_rises : FuncData
  F_rises : Fun K "rises" "rises" s_rises a_rises d_rises
  b_rises : L2.Binds K d_rises ["steps", "row"] []
  g_rises : mg "rises" = some (.ref a_rises)
  a_rise_numbers : Addr
  d_rise_numbers : FuncData
  F_rise_numbers : Fun K "rise_numbers" "rise_numbers" s_rise_numbers a_rise_numbers d_rise_numbers
  b_rise_numbers : L2.Binds K d_rise_numbers ["steps"] []
  g_rise_numbers : mg "rise_numbers" = some (.ref a_rise_numbers)
  a__law_state : Addr
  d__law_state : FuncData
  F__law_state : Fun K "_law_state" "_law_state" s__law_state a__law_state d__law_state
  b__law_state : L2.Binds K d__law_state ["script"] []
  g__law_state : mg "_law_state" = some (.ref a__law_state)
  a__law_draw : Addr
  d__law_draw : FuncData
  F__law_draw : Fun K "_law_draw" "_law_draw" s__law_draw a__law_draw d__law_draw
  b__law_draw : L2.Binds K d__law_draw ["state", "many"] []
  g__law_draw : mg "_law_draw" = some (.ref a__law_draw)
  a__law_pick : Addr
  d__law_pick : FuncData
  F__law_pick : Fun K "_law_pick" "_law_pick" s__law_pick a__law_pick d__law_pick
  b__law_pick : L2.Binds K d__law_pick ["state", "row"] []
  g__law_pick : mg "_law_pick" = some (.ref a__law_pick)
  a__law_eq : Addr
  d__law_eq : FuncData
  F__law_eq : Fun K "_law_eq" "_law_eq" s__law_eq a__law_eq d__law_eq
  b__law_eq : L2.Binds K d__law_eq ["told", "due"] []
  g__law_eq : mg "_law_eq" = some (.ref a__law_eq)
  a__law_rises : Addr
  d__law_rises : FuncData
  F__law_rises : Fun K "_law_rises" "_law_rises" s__law_rises a__law_rises d__law_rises
  b__law_rises : L2.Binds K d__law_rises ["steps", "row"] []
  g__law_rises : mg "_law_rises" = some (.ref a__law_rises)
  a__law_orders : Addr
  d__law_orders : FuncData
  F__law_orders : Fun K "_law_orders" "_law_orders" s__law_orders a__law_orders d__law_orders
  b__law_orders : L2.Binds K d__law_orders ["n"] []
  g__law_orders : mg "_law_orders" = some (.ref a__law_orders)
  z_abs : mg "abs" = none
  z_bool : mg "bool" = none
  z_int : mg "int" = none
  z_isinstance : mg "isinstance" = none
  z_len : mg "len" = none
  z_list : mg "list" = none
  z_max : mg "max" = none
  z_range : mg "range" = none
  z_str : mg "str" = none
  z_tuple : mg "tuple" = none
section
variable {P : Program} {w : World} {K : PySem.W.Frag} {mg : Str → Option Value} {base : Heap}
theorem ok__law_state (T : Tx K mg base) : FnOk P w K mg base CX0 1 T.a__law_state T.d__law_state ["script"] (spState K) := by
  refine T.F__law_state.ok sc__law_state (fun vs H Q E h => ?_) (fun cdv A outer s H vs Q E hr h => ?_)
  · obtain ⟨a, ns, rfl, _⟩ := h; rfl
  · obtain ⟨a, ns, rfl, hS, hlen, q⟩ := h
    refine ⟨_, pss_cons (ps_set (i := 1) sc__law_state.nd rfl (.inl rfl) pe_int)
      (pss_cons (ps_for PassesOwn.never rfl (pi_list (pv 0)) (pg_name (i := 2) sc__law_state.nd rfl (.inl rfl))
        (pss_one (ps_set (i := 1) sc__law_state.nd rfl (.inl rfl) (pe_op op_mod (pe_callTy call_int1 (by rfl) T.z_int PyProof.Rows.boot_int (pa_cons (pe_op op_add (pe_op op_mul (pv 1) pe_int) (pv 2)) pa_nil)) pe_int))))
      (pss_one (ps_ret (pe_lst (pa_cons (pe_lc (own := [("cell", 2)]) (g := gName 2) (tt := tYes) rfl sc__law_state.nd (pi_list (pv 0)) (blkOk_by (by kernel_rfl)) (fun _ _ _ _ _ => pg_name (i := 2) sc__law_state.nd rfl (.inl rfl)) (fun _ _ _ _ _ => pts_nil)
        (fun _ _ _ _ _ => pe_callB call_abs (by rfl) T.z_abs PyProof.Rows.boot_abs (pa_cons (pv 2) pa_nil))) (pa_cons (pe_op op_add (pv 1) pe_int) pa_nil)))))), ?_⟩
    refine ⟨.ref a, rfl, a, rfl, ⟨_, hS⟩, for_list (xs := ns.map V.int) (fun i σ H' => H' = H ∧ ∃ (seed : Int) (y : Option V), σ = [some (.ref a), some (.int seed), y]) ⟨rfl, 7, none, rfl⟩ (fun i σ H' _ h => by rw [h.1]; exact hS) (fun i x σ H' hx h => ?_) (fun σ H' h => ?_)⟩
    · obtain ⟨e, seed, y, rfl⟩ := h
      subst H'
      rw [List.getElem?_map] at hx
      cases hn : ns[i]? with
      | none => rw [hn] at hx; cases hx
      | some n =>
        rw [hn] at hx
        cases hx
        exact ⟨_, rfl, seed, 31, rfl, rfl, .inr (by decide), _, rfl, _, n, rfl, rfl, .inl ⟨_, rfl, _, _, rfl, rfl, (by show (0 : Int) < 1000003; decide), rfl, _, some (.int n), rfl⟩⟩
    · obtain ⟨e, seed, y, rfl⟩ := h
      subst H'
      refine ⟨.ref a, rfl, a, rfl, ⟨_, hS⟩, fun D hD => lc_list (K := K) (xs := ns.map V.int) (fun i H' => Same H' H' ∧ (∀ b o, H' b = some o → b = D ∨ H b = some o) ∧ Same H H' ∧ H' D = some (.lst (((ns.take i).map fun n => if n < 0 then -n else n).map V.int)))
        ⟨.refl _, fun b o e => ?_, same_new hD, ?_⟩ (fun i H' _ h => h.2.2.1.seq hS) (fun i x H' hx h => ?_) (fun H' h => ?_)⟩
      · by_cases hb : b = D
        · exact .inl hb
        · rw [upd_ne hb] at e; exact .inr e
      · rw [upd_same]; rfl
      · obtain ⟨_, h1, h2, h3⟩ := h
        rw [List.getElem?_map] at hx
        cases hn : ns[i]? with
        | none => rw [hn] at hx; cases hx
        | some n =>
          rw [hn] at hx
          cases hx
          have hil : i < ns.length := (List.getElem?_eq_some_iff.mp hn).1
          refine ⟨rfl, ?_⟩
          dsimp only [tYes, gName]
          rw [if_pos rfl]
          refine ⟨_, rfl, n, rfl, _, h3, ?_, .refl _, fun b o e => ?_, fun b o e => ?_, ?_⟩
          · rw [List.length_map, List.length_map, List.length_take]
            exact small1000 (by omega)
          · by_cases hb : b = D
            · exact .inl hb
            · rw [upd_ne hb] at e; exact h1 b o e
          · rw [upd_ne (ne_of_none e hD)]; exact h2 b o e
          · rw [upd_same, List.take_add_one, hn]
            simp
      · obtain ⟨_, h1, h2, h3⟩ := h
        refine ⟨_, rfl, seed, 1, rfl, rfl, by show 2 ≤ sizeLine; decide, fun p hp => q _ p D ((ns.map fun n => if n < 0 then -n else n), seed + 1) (fun e => ?_) (h2.trans (same_new hp)) ?_ ?_⟩
        · rw [e, h3] at hp; cases hp
        · rw [upd_same]
        · rw [upd_ne (fun e => by rw [e] at h3; rw [h3] at hp; cases hp), h3, List.take_of_length_le (by rw [List.length_map]; exact Nat.le_refl _)]
theorem ok__law_draw (T : Tx K mg base) : FnOk P w K mg base CX0 1 T.a__law_draw T.d__law_draw ["state", "many"] (spD K false drawM) := by
  refine T.F__law_draw.ok sc__law_draw (fun vs H Q E h => ?_) (fun cdv A outer s H vs Q E hr h => ?_)
  · obtain ⟨q, F, ds, ω, d, ω', hs, ho, hr, e, k⟩ := h
    obtain ⟨m, rfl, _⟩ := drawM_some e
    exact hr.length
  · obtain ⟨q, F, ds, ω, d, ω', hs, ho, hreps, e, k⟩ := h
    obtain ⟨m, rfl, hm0, hm1, rfl, rfl⟩ := drawM_some e
    cases hreps with
    | cons r1 rr =>
      cases rr with
      | cons r2 rr =>
        cases rr
        cases r2
        cases r1 with
        | @tok sa ca hq =>
          obtain ⟨hne, hF1, hF2, hH1, hH2⟩ := ho.2.1 _ hq
          refine ⟨_, pss_cons (ps_set (i := 2) sc__law_draw.nd rfl (.inl rfl) (pe_ix ix_list (pv 0) pe_int (fun _ _ => rfl)))
            (pss_cons (ps_while PassesOwn.never (PW.pt (pw_and (pt_cmpR op_gt (pe_callB call_len_seq (by rfl) T.z_len PySem.boot_len (pa_cons (pv 2) pa_nil)) pe_int (nomark _)) (pw_and1 (pt_cmpR op_eq (pe_ix ix_list (pv 2) pe_int (fun _ _ => rfl)) pe_int (nomark _)))))
              (pss_one (ps_expr (pe_bm PySem.F.plainAttrs_list PySem.F.slot_list_pop PySem.F.type_list_pop mt_popAt (pv 2) (pa_cons pe_int pa_nil)))))
            (pss_cons (ps_if (pt_cmpR op_gt (pe_callB call_len_seq (by rfl) T.z_len PySem.boot_len (pa_cons (pv 2) pa_nil)) pe_int (nomark _))
              (pss_cons (ps_set (i := 3) sc__law_draw.nd rfl (.inl rfl) (pe_ix ix_list (pv 2) pe_int (fun _ _ => rfl)))
              (pss_cons (ps_asg (pe_op op_fdivW (pv 3) (pv 1)) (pg_sub (pv 2) pe_int set_list))
              (pss_one (ps_ret (pe_op op_mod (pe_callTy call_int1 (by rfl) T.z_int PyProof.Rows.boot_int (pa_cons (pv 3) pa_nil)) (pv 1)))))) pss_nil)
            (pss_cons (ps_set (i := 4) sc__law_draw.nd rfl (.inl rfl) (pe_op op_mod (pe_callTy call_int1 (by rfl) T.z_int PyProof.Rows.boot_int (pa_cons (pe_op op_add (pe_op op_mul (pe_ix ix_list (pv 0) pe_int (fun _ _ => rfl)) pe_int) pe_int) pa_nil)) pe_int))
            (pss_cons (ps_asg (pv 4) (pg_sub (pv 0) pe_int set_list))
            (pss_one (ps_ret (pe_op op_mod (pe_callTy call_int1 (by rfl) T.z_int PyProof.Rows.boot_int (pa_cons (pe_op op_fdivW (pv 4) pe_int) pa_nil)) (pv 1)))))))), ?_⟩
          refine ⟨.ref sa, rfl, sa, _, 0, .ref ca, rfl, rfl, SqL.of hH1, atI_nat (j := 0) rfl, ?_⟩
          refine ⟨fun n σ H' => ∃ cs : List Int, n = cs.length ∧ dropZ cs = dropZ ω.1 ∧ σ = [some (.ref sa), some (.int m), some (.ref ca), none, none] ∧ H' ca = some (.lst (cs.map V.int)) ∧ ∀ b, b ≠ ca → H' b = H b,
            ⟨_, ω.1, rfl, rfl, rfl, hH2, fun _ _ => rfl⟩, fun n σ H' h => ?_⟩
          obtain ⟨cs, rfl, hd, rfl, hc, ho'⟩ := h
          have fin : ∀ {H2 : Hp} {c2 : List Int} {x2 : Int}, H2 ca = some (.lst (c2.map V.int)) → H2 sa = some (.lst [.ref ca, .int x2]) → (∀ b, b ≠ ca → b ≠ sa → H2 b = H b) → Post q F H F H2 (c2, x2) := fun {H2 c2 x2} g1 g2 g3 =>
            ⟨.refl F, fun _ _ => rfl, fun b o e => by
              have n1 : b ≠ ca := fun z => by rw [z, hF2] at e; cases e
              have n2 : b ≠ sa := fun z => by rw [z, hF1] at e; cases e
              rw [g3 b n1 n2]; exact hs b o e, fun b o e qf => by
              have qf' := qf.1 _ hq
              rw [g3 b qf'.2 qf'.1]; exact e, fun p hp => by
              rw [hq] at hp; cases hp
              exact ⟨hne, hF1, hF2, g2, g1⟩, fun a ha => by
              obtain ⟨t1, ps, t2, t3⟩ := ho.2.2 a ha
              have n1 : a ≠ ca := fun z => by rw [z, hH2] at t2; cases t2
              have n2 : a ≠ sa := fun z => by rw [z, hH1] at t2; cases t2
              exact ⟨t1, ps, by rw [g3 a n1 n2]; exact t2, t3⟩⟩
          have hsa : H' sa = some (.lst [.ref ca, .int ω.2]) := by rw [ho' sa hne]; exact hH1
          refine ⟨.ref ca, rfl, ca, _, rfl, .inl (SqL.of hc), _, _, rfl, rfl, _, rfl, ?_⟩
          cases cs with
          | nil =>
            refine iteF (iteF ⟨.ref ca, rfl, ca, _, rfl, .inl (SqL.of hc), _, _, rfl, rfl, _, rfl, iteF ?_⟩)
            have hdz : dropZ ω.1 = [] := hd.symm
            have e1 : drawF ω m = ((ω.2 * 48271 + 12345) % 2147483647 / 64 % m, ([], (ω.2 * 48271 + 12345) % 2147483647)) := by unfold drawF; rw [hdz]
            refine ⟨.ref sa, rfl, sa, _, 1, .int ω.2, rfl, rfl, SqL.of hsa, atI_nat (j := 1) rfl, ω.2, 48271, rfl, rfl, .inr (by decide), _, 12345, rfl, rfl, .inl ⟨_, rfl, _, 2147483647, rfl, rfl, (by show (0 : Int) < 2147483647; decide), ?_⟩⟩
            refine ⟨_, rfl, .ref sa, rfl, sa, _, 1, 1, rfl, rfl, hsa, rfl, ?_⟩
            refine ⟨_, rfl, _, 64, rfl, rfl, wide_div (by decide) (b := 8) (by decide) (by decide) (by decide), .inl ⟨_, rfl, _, rfl, _, m, rfl, rfl, hm0, ?_⟩⟩
            rw [e1] at k
            refine k F _ _ (fin ?_ ?_ ?_) (.int _)
            · rw [upd_ne (Ne.symm hne)]; exact hc
            · rw [upd_same]; rfl
            · intro b n1 n2; rw [upd_ne n2, ho' b n1]
          | cons x r =>
            refine iteB (b := decide ((0 : Int) < (((x :: r).map V.int).length : Nat))) (fun _ => ?_) (fun z => absurd z (by simp))
            refine ⟨.ref ca, rfl, ca, _, 0, .int x, rfl, rfl, SqL.of hc, atI_nat (j := 0) rfl, rfl, _, rfl, ?_⟩
            by_cases hx : x = 0
            · subst hx
              rw [decide_eq_true rfl]
              refine iteT ⟨fun σ' H2 => ∃ cs : List Int, cs.length = r.length ∧ dropZ cs = dropZ ω.1 ∧ σ' = [some (.ref sa), some (.int m), some (.ref ca), none, none] ∧ H2 ca = some (.lst (cs.map V.int)) ∧ ∀ b, b ≠ ca → H2 b = H b,
                fun σ' H2 ⟨cs, h1, h2, h3, h4, h5⟩ => ⟨cs.length, by rw [h1]; simp, cs, rfl, h2, h3, h4, h5⟩, ?_⟩
              refine ⟨.ref ca, rfl, .inl ⟨rfl, _, SqL.of hc⟩, ca, _, 0, 0, .int 0, rfl, rfl, hc, by decide, by decide, ?_, rfl, r, rfl, ?_, rfl, ?_, ?_⟩
              · simp [PySem.seqIndex?]
              · rw [← hd, dropZ_cons0]
              · rw [upd_same]; rfl
              · intro b hb; rw [upd_ne hb, ho' b hb]
            · rw [decide_eq_false (fun z => hx (V.int.inj z))]
              refine iteF ⟨.ref ca, rfl, ca, _, rfl, .inl (SqL.of hc), _, _, rfl, rfl, _, rfl, ?_⟩
              refine iteB (b := decide ((0 : Int) < (((x :: r).map V.int).length : Nat))) (fun _ => ?_) (fun z => absurd z (by simp))
              have hdz : dropZ ω.1 = x :: r := by rw [← hd, dropZ_ne r hx]
              have e1 : drawF ω m = (x % m, (x / m :: r, ω.2)) := by unfold drawF; rw [hdz]
              rw [e1] at k
              refine ⟨.ref ca, rfl, ca, _, 0, .int x, rfl, rfl, SqL.of hc, atI_nat (j := 0) rfl, ?_⟩
              refine ⟨_, rfl, _, rfl, x, m, rfl, rfl, wide_div hm0 hm1 (by decide) (by decide), .ref ca, rfl, ca, _, 0, 0, rfl, rfl, hc, ixN0, ?_⟩
              refine ⟨_, rfl, .inl ⟨_, rfl, _, rfl, _, m, rfl, rfl, hm0, ?_⟩⟩
              refine k F _ _ (fin ?_ ?_ ?_) (.int _)
              · rw [upd_same]; rfl
              · rw [upd_ne hne]; exact hsa
              · intro b n1 n2; rw [upd_ne n1, ho' b n1]
theorem ok_index_rows (T : Tx K mg base) : FnOk P w K mg base CX0 1 T.a_index_rows T.d_index_rows ["steps"] (spD K false m_index_rows) :=
  fn_ok T.F_index_rows sc_index_rows false (fun cdv A outer s' H E hr => (s_cons (s_set 1 sc_index_rows.nd (eF (f_lst (ae_cons (e_tup ae_nil) ae_nil))))
  (s_cons (s_for rfl PassesOwn.never (i_seq (e_var 0)) (g_name 2 sc_index_rows.nd)
  (s_cons (s_lcD2 1 [("row", 3), ("x", 4)] [4] sc_index_rows.nd (i_seq (e_var 1)) (fun _ _ _ _ _ => (g_name 3 sc_index_rows.nd)) (fun _ _ _ _ _ => t_yes) (fun _ _ _ _ _ => (i_range1 T.z_range (b_var 2))) (fun _ _ _ _ _ => (g_name 4 sc_index_rows.nd)) (fun _ _ _ _ _ => t_yes) (fun _ _ _ _ _ => (e_bin op_addA add_pure (b_var 3) (bE (e_tup (ae_cons (e_var 4) ae_nil))))))
  (s_nil [2])))
  (s_cons (s_ret (e_var 1))
  (s_nil [])))))
theorem ok_rises (T : Tx K mg base) : FnOk P w K mg base CX0 1 T.a_rises T.d_rises ["steps", "row"] (spD K false m_rises) :=
  fn_ok T.F_rises sc_rises false (fun cdv A outer s' H E hr => (s_cons (s_set 2 sc_rises.nd (e_if (t_cmp op_gt (cmp_pure _) (bE (e_ix (b_var 1) (bE e_int))) (bE e_int)) e_int e_int))
  (s_cons (s_ret (e_bin op_addA add_pure (b_var 2) (bE (e_callB call_len_seq len_pure T.z_len (a_cons (bF (f_lc [("at", 3)] sc_rises.nd (i_range1 T.z_range (bE (e_bin op_sub sub_pure (bE (e_callB call_len_seq len_pure T.z_len (a_cons (b_var 1) a_nil))) (bE e_int)))) (fun _ _ _ _ _ => (g_name 3 sc_rises.nd)) (fun _ _ _ _ _ => (t_one (t_cmp op_lt (cmp_pure _) (bE (e_bin op_mulA mul_pure (bE (e_ix (b_var 1) (b_var 3))) (bE (e_ix (b_var 0) (bE (e_bin op_addA add_pure (b_var 3) (bE e_int))))))) (bE (e_bin op_mulA mul_pure (bE (e_ix (b_var 1) (bE (e_bin op_addA add_pure (b_var 3) (bE e_int))))) (bE (e_ix (b_var 0) (b_var 3)))))))) (fun _ _ _ _ _ => e_int))) a_nil)))))
  (s_nil []))))
theorem ok_rise_numbers (T : Tx K mg base) : FnOk P w K mg base CX0 1 T.a_rise_numbers T.d_rise_numbers ["steps"] (spD K false m_rise_numbers) :=
  fn_ok T.F_rise_numbers sc_rise_numbers false (fun cdv A outer s' H E hr => (s_cons (s_setO 1 sc_rise_numbers.nd f_dnewT)
  (s_cons (s_for rfl PassesOwn.never (i_range1 T.z_range (bE (e_ixA (hu65 hr) (b_var 0) (bE e_int)))) (g_name 2 sc_rise_numbers.nd)
  (s_cons (s_set 3 sc_rise_numbers.nd (e_tup (ae_cons (e_var 2) (ae_cons (e_if (t_cmp op_gt (cmp_pure _) (b_var 2) (bE e_int)) e_int e_int) ae_nil))))
  (s_cons (s_dput 1 (hu65 hr) (pv 1) (b_var 3) (e_bin op_addA add_pure (bE (e_dget3 (hu65 hr) (b_var 1) (b_var 3) e_int)) (bE e_int)))
  (s_nil [2, 3]))))
  (s_cons (s_for rfl PassesOwn.never (i_range2 T.z_range (bE e_int) (bE (e_callB call_lenB lenB_pure T.z_len (a_cons (b_var 0) a_nil)))) (g_name 4 sc_rise_numbers.nd)
  (s_cons (s_setO 5 sc_rise_numbers.nd f_dnewT)
  (s_frz 1 (s_cons (s_for rfl PassesOwn.never (i_items (e_var 1)) (g_tup rfl (g_cons (g_tup rfl (g_cons (g_name 6 sc_rise_numbers.nd) (g_cons (g_name 9 sc_rise_numbers.nd) g_nil)) (by exact gsLen2)) (g_cons (g_name 10 sc_rise_numbers.nd) g_nil)) (by exact gsLen2))
  (s_cons (s_for rfl PassesOwn.never (i_range1 T.z_range (bE (e_ixA (hu65 hr) (b_var 0) (b_var 4)))) (g_name 2 sc_rise_numbers.nd)
  (s_cons (s_set 3 sc_rise_numbers.nd (e_tup (ae_cons (e_var 2) (ae_cons (e_bin op_addA add_pure (b_var 9) (bE (e_if (t_cmp op_lt (cmp_pure _) (bE (e_bin op_mulA mul_pure (b_var 6) (bE (e_ixA (hu65 hr) (b_var 0) (b_var 4))))) (bE (e_bin op_mulA mul_pure (b_var 2) (bE (e_ixA (hu65 hr) (b_var 0) (bE (e_bin op_sub sub_pure (b_var 4) (bE e_int)))))))) e_int e_int))) ae_nil))))
  (s_cons (s_dput 5 (hu65 hr) (pv 5) (b_var 3) (e_bin op_addA add_pure (bE (e_dget3 (hu65 hr) (b_var 5) (b_var 3) e_int)) (b_var 10)))
  (s_nil [2, 3]))))
  (s_nil [2, 3, 6, 9, 10])))
  (s_cons (s_mov 1 5 sc_rise_numbers.nd)
  (s_nil [2, 3, 4, 5, 6, 9, 10]))))))
  (s_cons (s_setO 7 sc_rise_numbers.nd (f_bin op_rep rep_pureF (bF (f_lst (ae_cons e_int ae_nil))) (bE (e_bin op_addA add_pure (bE (e_callB call_lenB lenB_pure T.z_len (a_cons (b_var 0) a_nil))) (bE e_int)))))
  (s_frz 1 (s_cons (s_for rfl PassesOwn.never (i_items (e_var 1)) (g_tup rfl (g_cons (g_tup rfl (g_cons (g_name 8 sc_rise_numbers.nd) (g_cons (g_name 9 sc_rise_numbers.nd) g_nil)) (by exact gsLen2)) (g_cons (g_name 10 sc_rise_numbers.nd) g_nil)) (by exact gsLen2))
  (s_cons (s_augI 7 (fun _ _ _ _ _ _ _ _ _ I r1 r2 h => iop_add _ _ _ _ _ _ _ _ _ I r1 r2 h) add0_pure (pv 7) (b_var 9) (b_var 10))
  (s_nil [8, 9, 10])))
  (s_cons (s_retV 7)
  (s_nil [])))))))))
theorem ok__law_pick (T : Tx K mg base) : FnOk P w K mg base CX0 2 T.a__law_pick T.d__law_pick ["state", "row"] (spD K false m__law_pick) :=
  fn_ok T.F__law_pick sc__law_pick false (fun cdv A outer s' H E hr => (s_cons (s_ret (e_ix (b_var 1) (bE (e_call (ok__law_draw T) (hr.mono (by decide)) T.g__law_draw T.F__law_draw.kp T.b__law_draw (ae_cons (e_var 0) (ae_cons (e_callB call_len_seq len_pure T.z_len (a_cons (b_var 1) a_nil)) ae_nil))))))
  (s_nil [])))
theorem ok__law_eq (T : Tx K mg base) (k : Nat) : FnOk P w K mg base CX0 (0 + k) T.a__law_eq T.d__law_eq ["told", "due"] (spD K false (m__law_eq k)) := by
  induction k with
  | zero => exact fn_never (fun _ _ => rfl)
  | succ k ih => exact fn_ok T.F__law_eq sc__law_eq false (fun cdv A outer s' H E hr => (s_cons (s_if (PW.pt (w_or (t_tru (bE (e_isi "list" T.z_isinstance T.z_list (b_var 1)))) (w_or1 (t_tru (bE (e_isi "tuple" T.z_isinstance T.z_tuple (b_var 1)))))))
  (s_cons (s_if (PW.pt (w_or (t_cmp (op_neD hr.units) ne_pure (bE (e_isi "list" T.z_isinstance T.z_list (b_var 0))) (bE (e_isi "list" T.z_isinstance T.z_list (b_var 1)))) (w_or1 (t_cmp (op_neD hr.units) ne_pure (bE (e_isi "tuple" T.z_isinstance T.z_tuple (b_var 0))) (bE (e_isi "tuple" T.z_isinstance T.z_tuple (b_var 1)))))))
  (s_cons (s_ret e_bl)
  (s_nil []))
  (s_nil []))
  (s_cons (s_if (t_cmp (op_neD hr.units) ne_pure (bE (e_callB call_len_seq len_pure T.z_len (a_cons (b_var 0) a_nil))) (bE (e_callB call_len_seq len_pure T.z_len (a_cons (b_var 1) a_nil))))
  (s_cons (s_ret e_bl)
  (s_nil []))
  (s_nil []))
  (s_cons (s_ret (e_cmp (op_eqD hr.units) eq_pure (bF (f_lc [("k", 2)] sc__law_eq.nd (i_range1 T.z_range (bE (e_callB call_len_seq len_pure T.z_len (a_cons (b_var 1) a_nil)))) (fun _ _ _ _ _ => (g_name 2 sc__law_eq.nd)) (fun _ _ _ _ _ => (t_one (t_not (t_tru (bE (e_call ih hr T.g__law_eq T.F__law_eq.kp T.b__law_eq (ae_cons (e_ix (b_var 0) (b_var 2)) (ae_cons (e_ix (b_var 1) (b_var 2)) ae_nil)))))))) (fun _ _ _ _ _ => (e_var 2)))) (bF (f_lst ae_nil))))
  (s_nil []))))
  (s_nil []))
  (s_cons (s_if (t_cmp op_isN isN_pure (b_var 1) (bE e_non))
  (s_cons (s_ret (e_cmp op_isN isN_pure (b_var 0) (bE e_non)))
  (s_nil []))
  (s_nil []))
  (s_cons (s_if (t_tru (bE (e_isi "str" T.z_isinstance T.z_str (b_var 1))))
  (s_cons (s_ret (e_and (e_isi "str" T.z_isinstance T.z_str (b_var 0)) (e_one (e_cmp (op_eqD hr.units) eq_pure (b_var 0) (b_var 1)))))
  (s_nil []))
  (s_nil []))
  (s_cons (s_if (t_tru (bE (e_isi "bool" T.z_isinstance T.z_bool (b_var 1))))
  (s_cons (s_ret (e_and (e_isi "bool" T.z_isinstance T.z_bool (b_var 0)) (e_one (e_cmp (op_eqD hr.units) eq_pure (b_var 0) (b_var 1)))))
  (s_nil []))
  (s_nil []))
  (s_cons (s_ret (e_and (e_isi "int" T.z_isinstance T.z_int (b_var 0)) (e_and (e_not (e_isi "bool" T.z_isinstance T.z_bool (b_var 0))) (e_one (e_cmp (op_eqD hr.units) eq_pure (b_var 0) (b_var 1))))))
  (s_nil [])))))))
theorem ok__law_rises (T : Tx K mg base) : FnOk P w K mg base CX0 1 T.a__law_rises T.d__law_rises ["steps", "row"] (spD K false m__law_rises) :=
  fn_ok T.F__law_rises sc__law_rises false (fun cdv A outer s' H E hr => (s_cons (s_set 2 sc__law_rises.nd (e_callTy call_int1 int_pure T.z_int (a_cons (bE (e_cmp op_gt (cmp_pure _) (bE (e_ix (b_var 1) (bE e_int))) (bE e_int))) a_nil)))
  (s_cons (s_for rfl PassesOwn.never (i_range1 T.z_range (bE (e_bin op_sub sub_pure (bE (e_callB call_len_seq len_pure T.z_len (a_cons (b_var 1) a_nil))) (bE e_int)))) (g_name 3 sc__law_rises.nd)
  (s_cons (s_set 2 sc__law_rises.nd (e_bin op_addA add_pure (b_var 2) (bE (e_callTy call_int1 int_pure T.z_int (a_cons (bE (e_cmp op_lt (cmp_pure _) (bE (e_bin op_mulA mul_pure (bE (e_ix (b_var 1) (b_var 3))) (bE (e_ix (b_var 0) (bE (e_bin op_addA add_pure (b_var 3) (bE e_int))))))) (bE (e_bin op_mulA mul_pure (bE (e_ix (b_var 1) (bE (e_bin op_addA add_pure (b_var 3) (bE e_int))))) (bE (e_ix (b_var 0) (b_var 3))))))) a_nil)))))
  (s_nil [3])))
  (s_cons (s_ret (e_var 2))
  (s_nil [])))))
theorem ok__law_orders (T : Tx K mg base) : FnOk P w K mg base CX0 1 T.a__law_orders T.d__law_orders ["n"] (spD K false m__law_orders) :=
  fn_ok T.F__law_orders sc__law_orders false (fun cdv A outer s' H E hr => (s_cons (s_set 1 sc__law_orders.nd (eF (f_lst (ae_cons (e_tup ae_nil) ae_nil))))
  (s_cons (s_for rfl PassesOwn.never (i_range1 T.z_range (b_var 0)) (g_name 2 sc__law_orders.nd)
  (s_cons (s_set 3 sc__law_orders.nd (eF (f_lst ae_nil)))
  (s_cons (s_for rfl PassesOwn.never (i_seq (e_var 1)) (g_name 4 sc__law_orders.nd)
  (s_cons (s_set 3 sc__law_orders.nd (e_bin op_addA add_pure (b_var 3) (bF (f_lc [("j", 5)] sc__law_orders.nd (i_range1 T.z_range (bE (e_bin op_addA add_pure (b_var 2) (bE e_int)))) (fun _ _ _ _ _ => (g_name 5 sc__law_orders.nd)) (fun _ _ _ _ _ => t_yes) (fun _ _ _ _ _ => (e_bin op_addA add_pure (bE (e_bin op_addA add_pure (bE (e_slice (b_var 4) o_none (o_some (b_var 5)))) (bE (e_tup (ae_cons (e_var 2) ae_nil))))) (bE (e_slice (b_var 4) (o_some (b_var 5)) o_none))))))))
  (s_nil [4])))
  (s_cons (s_set 1 sc__law_orders.nd (e_var 3))
  (s_nil [2, 3, 4])))))
  (s_cons (s_ret (e_var 1))
  (s_nil [])))))
end
section
variable {P : Program} {w : World} {K : PySem.W.Frag} {mg : Str → Option Value} {base : Heap}
theorem ok_law {f : Addr} {fd : FuncData} (F : Fun K "law" "law" s_law f fd) (T : Tx K mg base) (hs : Tr (m_law m_start) isTrue') : FnOk P w K mg base CX0 61 f fd ["script"] (spLaw K) := by
  refine F.ok sc_law (fun vs H Q E h => ?_) (fun cdv A outer s' H vs Q E hr h => ?_)
  · obtain ⟨a, ns, rfl, _⟩ := h; rfl
  · obtain ⟨a, ns, rfl, hS, hlen, htb, q⟩ := h
    refine ⟨_, pss_cons (ps_set (i := 1) sc_law.nd rfl (by first | exact .inl rfl | exact .inr rfl) (pe_call (ok__law_state T) (hr.mono (by decide)) (by rfl) T.g__law_state T.F__law_state.kp T.b__law_state .nil pass0 (pa_cons (pv 0) pa_nil)))
      (s_cons (s_for rfl PassesOwn.never (i_range1 T.z_range (bE e_int)) (g_name 2 sc_law.nd)
  (s_cons (s_set 3 sc_law.nd (e_tup ae_nil))
  (s_cons (s_set 4 sc_law.nd e_int)
  (s_cons (s_for rfl PassesOwn.never (i_range1 T.z_range (bE (e_bin op_addA add_pure (bE e_int) (bE (e_call (ok__law_draw T) (hr.mono (by decide)) T.g__law_draw T.F__law_draw.kp T.b__law_draw (ae_cons (e_var 1) (ae_cons e_int ae_nil))))))) (g_name 5 sc_law.nd)
  (s_cons (s_set 7 sc_law.nd (e_bin op_addA add_pure (bE e_int) (bE (e_call (ok__law_draw T) (hr.mono (by decide)) T.g__law_draw T.F__law_draw.kp T.b__law_draw (ae_cons (e_var 1) (ae_cons e_int ae_nil))))))
  (s_cons (s_if (t_cmp op_le (cmp_pure _) (bE (e_bin op_mulA mul_pure (b_var 4) (b_var 7))) (bE e_int))
  (s_cons (s_par 3 4 sc_law.nd (by decide) (e_bin op_addA add_pure (b_var 3) (bE (e_tup (ae_cons (e_var 7) ae_nil)))) (e_bin op_mulA mul_pure (b_var 4) (b_var 7)))
  (s_nil []))
  (s_nil []))
  (s_nil [5, 7]))))
  (s_cons (s_set 6 sc_law.nd (eF (f_lst (ae_cons (e_tup ae_nil) ae_nil))))
  (s_cons (s_for rfl PassesOwn.never (i_seq (e_var 3)) (g_name 7 sc_law.nd)
  (s_cons (s_set 8 sc_law.nd (eF (f_lst ae_nil)))
  (s_cons (s_for rfl PassesOwn.never (i_seq (e_var 6)) (g_name 9 sc_law.nd)
  (s_cons (s_set 8 sc_law.nd (e_bin op_addA add_pure (b_var 8) (bF (f_lc [("e", 17)] sc_law.nd (i_range1 T.z_range (b_var 7)) (fun _ _ _ _ _ => (g_name 17 sc_law.nd)) (fun _ _ _ _ _ => t_yes) (fun _ _ _ _ _ => (e_bin op_addA add_pure (b_var 9) (bE (e_tup (ae_cons (e_var 17) ae_nil)))))))))
  (s_nil [9])))
  (s_cons (s_set 6 sc_law.nd (e_var 8))
  (s_nil [7, 8, 9])))))
  (s_cons (s_if (t_not (t_tru (bE (e_call (ok__law_eq T 60) (hr.mono (by decide)) T.g__law_eq T.F__law_eq.kp T.b__law_eq (ae_cons (e_call (ok_index_rows T) (hr.mono (by decide)) T.g_index_rows T.F_index_rows.kp T.b_index_rows (ae_cons (e_var 3) ae_nil)) (ae_cons (e_var 6) ae_nil))))))
  (s_cons (s_ret e_bl)
  (s_nil []))
  (s_nil []))
  (s_cons (s_setO 16 sc_law.nd (f_bin op_rep rep_pureF (bF (f_lst (ae_cons e_int ae_nil))) (bE (e_bin op_addA add_pure (bE (e_callB call_len_seq len_pure T.z_len (a_cons (b_var 3) a_nil))) (bE e_int)))))
  (s_cons (s_for rfl PassesOwn.never (i_seq (e_var 6)) (g_name 9 sc_law.nd)
  (s_cons (s_set 10 sc_law.nd (e_call (ok__law_rises T) (hr.mono (by decide)) T.g__law_rises T.F__law_rises.kp T.b__law_rises (ae_cons (e_var 3) (ae_cons (e_var 9) ae_nil))))
  (s_cons (s_setI 16 (pv 16) (b_var 10) (e_bin op_addA add_pure (bE (e_ix (b_var 16) (b_var 10))) (bE e_int)))
  (s_nil [9, 10]))))
  (s_frz 16 (s_cons (s_if (t_not (t_tru (bE (e_call (ok__law_eq T 60) (hr.mono (by decide)) T.g__law_eq T.F__law_eq.kp T.b__law_eq (ae_cons (e_call (ok_rise_numbers T) (hr.mono (by decide)) T.g_rise_numbers T.F_rise_numbers.kp T.b_rise_numbers (ae_cons (e_var 3) ae_nil)) (ae_cons (e_var 16) ae_nil))))))
  (s_cons (s_ret e_bl)
  (s_nil []))
  (s_nil []))
  (s_cons (s_set 9 sc_law.nd (e_call (ok__law_pick T) (hr.mono (by decide)) T.g__law_pick T.F__law_pick.kp T.b__law_pick (ae_cons (e_var 1) (ae_cons (e_var 6) ae_nil))))
  (s_cons (s_if (t_not (t_tru (bE (e_call (ok__law_eq T 60) (hr.mono (by decide)) T.g__law_eq T.F__law_eq.kp T.b__law_eq (ae_cons (e_call (ok_rises T) (hr.mono (by decide)) T.g_rises T.F_rises.kp T.b_rises (ae_cons (e_var 3) (ae_cons (e_var 9) ae_nil))) (ae_cons (e_call (ok__law_rises T) (hr.mono (by decide)) T.g__law_rises T.F__law_rises.kp T.b__law_rises (ae_cons (e_var 3) (ae_cons (e_var 9) ae_nil))) ae_nil))))))
  (s_cons (s_ret e_bl)
  (s_nil []))
  (s_nil []))
  (s_cons (s_set 11 sc_law.nd (e_index (b_var 16) (bE (e_callB (cr_max2 rfl) max_pure T.z_max (a_cons (b_var 16) a_nil)))))
  (s_cons (s_if (PW.pt (w_or (t_cmp (op_neD hr.units) ne_pure (bF (f_lc [("k", 5)] sc_law.nd (i_range1 T.z_range (b_var 11)) (fun _ _ _ _ _ => (g_name 5 sc_law.nd)) (fun _ _ _ _ _ => (t_one (t_cmp op_gt (cmp_pure _) (bE (e_ix (b_var 16) (b_var 5))) (bE (e_ix (b_var 16) (bE (e_bin op_addA add_pure (b_var 5) (bE e_int)))))))) (fun _ _ _ _ _ => (e_var 5)))) (bF (f_lst ae_nil))) (w_or1 (t_cmp (op_neD hr.units) ne_pure (bF (f_lc [("k", 5)] sc_law.nd (i_range2 T.z_range (b_var 11) (bE (e_bin op_sub sub_pure (bE (e_callB call_len_seq len_pure T.z_len (a_cons (b_var 16) a_nil))) (bE e_int)))) (fun _ _ _ _ _ => (g_name 5 sc_law.nd)) (fun _ _ _ _ _ => (t_one (t_cmp op_lt (cmp_pure _) (bE (e_ix (b_var 16) (b_var 5))) (bE (e_ix (b_var 16) (bE (e_bin op_addA add_pure (b_var 5) (bE e_int)))))))) (fun _ _ _ _ _ => (e_var 5)))) (bF (f_lst ae_nil))))))
  (s_cons (s_ret e_bl)
  (s_nil []))
  (s_nil []))
  (s_nil [2, 3, 4, 5, 6, 7, 8, 9, 10, 11, 16]))))))))))))))))
  (s_cons (s_set 12 sc_law.nd (e_bin op_addA add_pure (bE e_int) (bE (e_call (ok__law_draw T) (hr.mono (by decide)) T.g__law_draw T.F__law_draw.kp T.b__law_draw (ae_cons (e_var 1) (ae_cons e_int ae_nil))))))
  (s_cons (s_setO 13 sc_law.nd (f_bin op_rep rep_pureF (bF (f_lst (ae_cons e_int ae_nil))) (bE (e_bin op_addA add_pure (b_var 12) (bE e_int)))))
  (s_cons (s_for rfl PassesOwn.never (i_seq (e_call (ok__law_orders T) (hr.mono (by decide)) T.g__law_orders T.F__law_orders.kp T.b__law_orders (ae_cons (e_var 12) ae_nil))) (g_name 14 sc_law.nd)
  (s_cons (s_set 15 sc_law.nd (e_callB call_len_seq len_pure T.z_len (a_cons (bF (f_lc [("k", 5)] sc_law.nd (i_range1 T.z_range (bE (e_bin op_sub sub_pure (b_var 12) (bE e_int)))) (fun _ _ _ _ _ => (g_name 5 sc_law.nd)) (fun _ _ _ _ _ => (t_one (t_cmp op_gt (cmp_pure _) (bE (e_ix (b_var 14) (b_var 5))) (bE (e_ix (b_var 14) (bE (e_bin op_addA add_pure (b_var 5) (bE e_int)))))))) (fun _ _ _ _ _ => (e_var 5)))) a_nil)))
  (s_cons (s_setI 13 (pv 13) (b_var 15) (e_bin op_addA add_pure (bE (e_ix (b_var 13) (b_var 15))) (bE e_int)))
  (s_nil [14, 15]))))
  (s_cons (s_set 16 sc_law.nd (e_call (ok_rise_numbers T) (hr.mono (by decide)) T.g_rise_numbers T.F_rise_numbers.kp T.b_rise_numbers (ae_cons (e_tupR2 rfl T.z_tuple T.z_range (bE e_int) (bE (e_bin op_addA add_pure (b_var 12) (bE e_int)))) ae_nil)))
  (s_frz 16 (s_frz 13 (s_cons (s_ret (e_and (e_call (ok__law_eq T 60) (hr.mono (by decide)) T.g__law_eq T.F__law_eq.kp T.b__law_eq (ae_cons (e_var 16) (ae_cons (e_var 13) ae_nil))) (e_one (e_cmp (op_eqD hr.units) eq_pure (bE (e_slice (b_var 16) o_none (o_some (b_var 12)))) (bF (f_rev (bE (e_slice (b_var 16) o_none (o_some (b_var 12))))))))))
  (s_nil []))))))))), ?_⟩
    exact ⟨.ref a, rfl, a, ns, rfl, hS, hlen, fun H' s c ω hne hsm h1 h2 => law_run (s := m_law) hs (n := 16) rfl hne h1 h2 (fun P hP => tab_same hsm (htb P hP)) q⟩
end
theorem all_mk {l : PySem.W.OpenLaw} {w : World} {K : PySem.W.Frag} {h : Heap} {mg : Str → Option Value} {fa : Addr} (hs : Tr (m_law m_start) isTrue') (X : K.In h) (G : h.Ns mainGlobals mg) (hfa : mg "law" = some (.ref fa))
    {f0 : Addr} {od0 an0 : Option Addr} {sl0 : Array (Option Value)} {oc0 kV0 dc0 pm0 cd0 ct0 : Value}
    (a0 : PySem.W.nsIn K mainGlobals "index_rows" = some (some (.ref f0))) (l0 : K.lookup f0 = some ⟨oc0, od0, .func (PySem.W.fnOf "index_rows" "index_rows" (defArgs s_index_rows) (defBody s_index_rows) (defScope s_index_rows) .none kV0 dc0 pm0 an0 cd0 ct0), sl0⟩) (c0 : PySem.W.codeIn K cd0 "index_rows" = true) (k0 : PySem.W.keepIn K (.ref f0) = true)
    {f1 : Addr} {od1 an1 : Option Addr} {sl1 : Array (Option Value)} {oc1 kV1 dc1 pm1 cd1 ct1 : Value}
    (a1 : PySem.W.nsIn K mainGlobals "rises" = some (some (.ref f1))) (l1 : K.lookup f1 = some ⟨oc1, od1, .func (PySem.W.fnOf "rises" "rises" (defArgs s_rises) (defBody s_rises) (defScope s_rises) .none kV1 dc1 pm1 an1 cd1 ct1), sl1⟩) (c1 : PySem.W.codeIn K cd1 "rises" = true) (k1 : PySem.W.keepIn K (.ref f1) = true)
    {f2 : Addr} {od2 an2 : Option Addr} {sl2 : Array (Option Value)} {oc2 kV2 dc2 pm2 cd2 ct2 : Value}
    (a2 : PySem.W.nsIn K mainGlobals "rise_numbers" = some (some (.ref f2))) (l2 : K.lookup f2 = some ⟨oc2, od2, .func (PySem.W.fnOf "rise_numbers" "rise_numbers" (defArgs s_rise_numbers) (defBody s_rise_numbers) (defScope s_rise_numbers) .none kV2 dc2 pm2 an2 cd2 ct2), sl2⟩) (c2 : PySem.W.codeIn K cd2 "rise_numbers" = true) (k2 : PySem.W.keepIn K (.ref f2) = true)
    {f3 : Addr} {od3 an3 : Option Addr} {sl3 : Array (Option Value)} {oc3 kV3 dc3 pm3 cd3 ct3 : Value}
    (a3 : PySem.W.nsIn K mainGlobals "_law_state" = some (some (.ref f3))) (l3 : K.lookup f3 = some ⟨oc3, od3, .func (PySem.W.fnOf "_law_state" "_law_state" (defArgs s__law_state) (defBody s__law_state) (defScope s__law_state) .none kV3 dc3 pm3 an3 cd3 ct3), sl3⟩) (c3 : PySem.W.codeIn K cd3 "_law_state" = true) (k3 : PySem.W.keepIn K (.ref f3) = true)
    {f4 : Addr} {od4 an4 : Option Addr} {sl4 : Array (Option Value)} {oc4 kV4 dc4 pm4 cd4 ct4 : Value}
    (a4 : PySem.W.nsIn K mainGlobals "_law_draw" = some (some (.ref f4))) (l4 : K.lookup f4 = some ⟨oc4, od4, .func (PySem.W.fnOf "_law_draw" "_law_draw" (defArgs s__law_draw) (defBody s__law_draw) (defScope s__law_draw) .none kV4 dc4 pm4 an4 cd4 ct4), sl4⟩) (c4 : PySem.W.codeIn K cd4 "_law_draw" = true) (k4 : PySem.W.keepIn K (.ref f4) = true)
    {f5 : Addr} {od5 an5 : Option Addr} {sl5 : Array (Option Value)} {oc5 kV5 dc5 pm5 cd5 ct5 : Value}
    (a5 : PySem.W.nsIn K mainGlobals "_law_pick" = some (some (.ref f5))) (l5 : K.lookup f5 = some ⟨oc5, od5, .func (PySem.W.fnOf "_law_pick" "_law_pick" (defArgs s__law_pick) (defBody s__law_pick) (defScope s__law_pick) .none kV5 dc5 pm5 an5 cd5 ct5), sl5⟩) (c5 : PySem.W.codeIn K cd5 "_law_pick" = true) (k5 : PySem.W.keepIn K (.ref f5) = true)
    {f6 : Addr} {od6 an6 : Option Addr} {sl6 : Array (Option Value)} {oc6 kV6 dc6 pm6 cd6 ct6 : Value}
    (a6 : PySem.W.nsIn K mainGlobals "_law_eq" = some (some (.ref f6))) (l6 : K.lookup f6 = some ⟨oc6, od6, .func (PySem.W.fnOf "_law_eq" "_law_eq" (defArgs s__law_eq) (defBody s__law_eq) (defScope s__law_eq) .none kV6 dc6 pm6 an6 cd6 ct6), sl6⟩) (c6 : PySem.W.codeIn K cd6 "_law_eq" = true) (k6 : PySem.W.keepIn K (.ref f6) = true)
    {f7 : Addr} {od7 an7 : Option Addr} {sl7 : Array (Option Value)} {oc7 kV7 dc7 pm7 cd7 ct7 : Value}
    (a7 : PySem.W.nsIn K mainGlobals "_law_rises" = some (some (.ref f7))) (l7 : K.lookup f7 = some ⟨oc7, od7, .func (PySem.W.fnOf "_law_rises" "_law_rises" (defArgs s__law_rises) (defBody s__law_rises) (defScope s__law_rises) .none kV7 dc7 pm7 an7 cd7 ct7), sl7⟩) (c7 : PySem.W.codeIn K cd7 "_law_rises" = true) (k7 : PySem.W.keepIn K (.ref f7) = true)
    {f8 : Addr} {od8 an8 : Option Addr} {sl8 : Array (Option Value)} {oc8 kV8 dc8 pm8 cd8 ct8 : Value}
    (a8 : PySem.W.nsIn K mainGlobals "_law_orders" = some (some (.ref f8))) (l8 : K.lookup f8 = some ⟨oc8, od8, .func (PySem.W.fnOf "_law_orders" "_law_orders" (defArgs s__law_orders) (defBody s__law_orders) (defScope s__law_orders) .none kV8 dc8 pm8 an8 cd8 ct8), sl8⟩) (c8 : PySem.W.codeIn K cd8 "_law_orders" = true) (k8 : PySem.W.keepIn K (.ref f8) = true)
    {f9 : Addr} {od9 an9 : Option Addr} {sl9 : Array (Option Value)} {oc9 kV9 dc9 pm9 cd9 ct9 : Value}
    (a9 : PySem.W.nsIn K mainGlobals "law" = some (some (.ref f9))) (l9 : K.lookup f9 = some ⟨oc9, od9, .func (PySem.W.fnOf "law" "law" (defArgs s_law) (defBody s_law) (defScope s_law) .none kV9 dc9 pm9 an9 cd9 ct9), sl9⟩) (c9 : PySem.W.codeIn K cd9 "law" = true) (k9 : PySem.W.keepIn K (.ref f9) = true)
    (z_abs : PySem.W.nsIn K mainGlobals "abs" = some none)
    (z_bool : PySem.W.nsIn K mainGlobals "bool" = some none)
    (z_int : PySem.W.nsIn K mainGlobals "int" = some none)
    (z_isinstance : PySem.W.nsIn K mainGlobals "isinstance" = some none)
    (z_len : PySem.W.nsIn K mainGlobals "len" = some none)
    (z_list : PySem.W.nsIn K mainGlobals "list" = some none)
    (z_max : PySem.W.nsIn K mainGlobals "max" = some none)
    (z_range : PySem.W.nsIn K mainGlobals "range" = some none)
    (z_str : PySem.W.nsIn K mainGlobals "str" = some none)
    (z_tuple : PySem.W.nsIn K mainGlobals "tuple" = some none)
    : ∃ fd : FuncData, (∀ (s : Shared) (v : Value), BindsTo s fd ⟨[v], []⟩ [("script", v)]) ∧ ∀ base : Heap, K.In base → base.Ns mainGlobals mg → TabsG K base mg → FnOk l.prog w K mg base CX0 61 fa fd ["script"] (spLaw K) := by
  have e := hfa.symm.trans (PySem.W.mg_of X G a9)
  cases e
  have F0 := fun_mk (st := s_index_rows) l0 c0 k0
  have F1 := fun_mk (st := s_rises) l1 c1 k1
  have F2 := fun_mk (st := s_rise_numbers) l2 c2 k2
  have F3 := fun_mk (st := s__law_state) l3 c3 k3
  have F4 := fun_mk (st := s__law_draw) l4 c4 k4
  have F5 := fun_mk (st := s__law_pick) l5 c5 k5
  have F6 := fun_mk (st := s__law_eq) l6 c6 k6
  have F7 := fun_mk (st := s__law_rises) l7 c7 k7
  have F8 := fun_mk (st := s__law_orders) l8 c8 k8
  have F9 := fun_mk (st := s_law) l9 c9 k9
  refine ⟨PySem.W.fnOf "law" "law" (defArgs s_law) (defBody s_law) (defScope s_law) .none kV9 dc9 pm9 an9 cd9 ct9, fun s v => .of_eq rfl, fun base _ _ TG => ok_law F9 { 
    a_index_rows := f0, d_index_rows := _, F_index_rows := F0, b_index_rows := F0.binds (ps := ["steps"]) (fun _ _ _ _ _ _ us hl => match us, hl with | [_], _ => rfl), g_index_rows := PySem.W.mg_of X G a0,
    a_rises := f1, d_rises := _, F_rises := F1, b_rises := F1.binds (ps := ["steps", "row"]) (fun _ _ _ _ _ _ us hl => match us, hl with | [_, _], _ => rfl), g_rises := PySem.W.mg_of X G a1,
    a_rise_numbers := f2, d_rise_numbers := _, F_rise_numbers := F2, b_rise_numbers := F2.binds (ps := ["steps"]) (fun _ _ _ _ _ _ us hl => match us, hl with | [_], _ => rfl), g_rise_numbers := PySem.W.mg_of X G a2,
    a__law_state := f3, d__law_state := _, F__law_state := F3, b__law_state := F3.binds (ps := ["script"]) (fun _ _ _ _ _ _ us hl => match us, hl with | [_], _ => rfl), g__law_state := PySem.W.mg_of X G a3,
    a__law_draw := f4, d__law_draw := _, F__law_draw := F4, b__law_draw := F4.binds (ps := ["state", "many"]) (fun _ _ _ _ _ _ us hl => match us, hl with | [_, _], _ => rfl), g__law_draw := PySem.W.mg_of X G a4,
    a__law_pick := f5, d__law_pick := _, F__law_pick := F5, b__law_pick := F5.binds (ps := ["state", "row"]) (fun _ _ _ _ _ _ us hl => match us, hl with | [_, _], _ => rfl), g__law_pick := PySem.W.mg_of X G a5,
    a__law_eq := f6, d__law_eq := _, F__law_eq := F6, b__law_eq := F6.binds (ps := ["told", "due"]) (fun _ _ _ _ _ _ us hl => match us, hl with | [_, _], _ => rfl), g__law_eq := PySem.W.mg_of X G a6,
    a__law_rises := f7, d__law_rises := _, F__law_rises := F7, b__law_rises := F7.binds (ps := ["steps", "row"]) (fun _ _ _ _ _ _ us hl => match us, hl with | [_, _], _ => rfl), g__law_rises := PySem.W.mg_of X G a7,
    a__law_orders := f8, d__law_orders := _, F__law_orders := F8, b__law_orders := F8.binds (ps := ["n"]) (fun _ _ _ _ _ _ us hl => match us, hl with | [_], _ => rfl), g__law_orders := PySem.W.mg_of X G a8,
    z_abs := PySem.W.mg_none_of X G z_abs,
    z_bool := PySem.W.mg_none_of X G z_bool,
    z_int := PySem.W.mg_none_of X G z_int,
    z_isinstance := PySem.W.mg_none_of X G z_isinstance,
    z_len := PySem.W.mg_none_of X G z_len,
    z_list := PySem.W.mg_none_of X G z_list,
    z_max := PySem.W.mg_none_of X G z_max,
    z_range := PySem.W.mg_none_of X G z_range,
    z_str := PySem.W.mg_none_of X G z_str,
    z_tuple := PySem.W.mg_none_of X G z_tuple } hs⟩
end K58
open PySem PySem.W PyProof.Rows
set_option maxHeartbeats 0 in
theorem PySem.Challenge.cw_sumwright_k58_index_rows_and_rises_holds : PySem.Challenge.rw_sumwright_k58_index_rows_and_rises.Holds := by
  w_on; o_law; k_head; (case hw => w_witness2)
  k_fill
  refine FL.walk_gen (l := PySem.Challenge.rw_sumwright_k58_index_rows_and_rises) (n := 63) (k := 61) (x := "script") rfl (by decide) (by decide) rfl ⟨rfl, by decide, by decide⟩ (fun w h Y => PySem.W.kIn_of Y) (fun w => by kernel_rfl) (fun w => by kernel_rfl) ?F
  case F =>
    intro w mg fa h KX G hmg
    refine' K58.all_mk K58.law_true KX G hmg ?a0 ?l0 ?c0 ?k0 ?a1 ?l1 ?c1 ?k1 ?a2 ?l2 ?c2 ?k2 ?a3 ?l3 ?c3 ?k3 ?a4 ?l4 ?c4 ?k4 ?a5 ?l5 ?c5 ?k5 ?a6 ?l6 ?c6 ?k6 ?a7 ?l7 ?c7 ?k7 ?a8 ?l8 ?c8 ?k8 ?a9 ?l9 ?c9 ?k9 ?z_abs ?z_bool ?z_int ?z_isinstance ?z_len ?z_list ?z_max ?z_range ?z_str ?z_tuple
    (case a0 => k_is); (case l0 => k_is); (case c0 => k_is); (case k0 => k_is); (case a1 => k_is); (case l1 => k_is); (case c1 => k_is); (case k1 => k_is); (case a2 => k_is); (case l2 => k_is); (case c2 => k_is); (case k2 => k_is); (case a3 => k_is); (case l3 => k_is); (case c3 => k_is); (case k3 => k_is); (case a4 => k_is); (case l4 => k_is); (case c4 => k_is); (case k4 => k_is); (case a5 => k_is); (case l5 => k_is); (case c5 => k_is); (case k5 => k_is); (case a6 => k_is); (case l6 => k_is); (case c6 => k_is); (case k6 => k_is); (case a7 => k_is); (case l7 => k_is); (case c7 => k_is); (case k7 => k_is); (case a8 => k_is); (case l8 => k_is); (case c8 => k_is); (case k8 => k_is); (case a9 => k_is); (case l9 => k_is); (case c9 => k_is); (case k9 => k_is); (case z_abs => k_is); (case z_bool => k_is); (case z_int => k_is); (case z_isinstance => k_is); (case z_len => k_is); (case z_list => k_is); (case z_max => k_is); (case z_range => k_is); (case z_str => k_is); (case z_tuple => k_is)
end
