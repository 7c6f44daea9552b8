import PyProof.Rows.All
import HandS.ForMost
import HandS.ForExc
import KE.DataEq
import KE.DataMinMax
import KE.DataAny
import KE.DataCmp
import KE.DataIsa
import KE.SortData
import KE.DatumIndex
import HandS.Wide
import HandS.SortInts
import HandS.Style
import HandS.TupAny
import HandS.Comp
import HandS.Walk
import HandS.Zip
import HandS.ExcOwn
import HandS.Lambda
import HandS.IsInst
import HandS.Strs
import PySem.Challenge.RW_wordsturned_k81_whole_words_of_lines
set_option Elab.async false
set_option linter.all false
set_option autoImplicit false
set_option maxRecDepth 100000
set_option maxHeartbeats 4000000
namespace TL
open PySem PySem.Spec PyProof.Rows L2

/-! values as trees -/
inductive D where
  | non | bl (b : Bool) | int (i : Int) | str (s : List Nat) | lst (l : List D) | tup (l : List D)
  /-- the law's script -/
  | scr (ns : List Int)
  deriving Inhabited

abbrev Fg := PySem.W.Frag

/-- all that is known in H is so in H' -/
def Le (H H' : Hp) : Prop := ∀ a o, H a = some o → H' a = some o
theorem Le.rfl' {H : Hp} : Le H H := fun _ _ h => h
theorem Le.tr {H H1 H2 : Hp} (a : Le H H1) (b : Le H1 H2) : Le H H2 := fun x o h => b x o (a x o h)
theorem Le.new {H : Hp} {p : Addr} {o : HO} (h : H p = none) : Le H (upd H p o) := fun a u e => by
  rw [upd_ne (ne_of_none e h)]; exact e
theorem Le.sqL {K : Fg} {H H' : Hp} {a : Addr} {xs : List V} (e : Le H H') (h : SqL K H a xs) : SqL K H' a xs := by
  rcases h with (h | ⟨o, h⟩) | h
  · exact .inl (.inl (e _ _ h))
  · exact .inl (.inr ⟨o, e _ _ h⟩)
  · exact .inr h
theorem Le.sqT {K : Fg} {H H' : Hp} {a : Addr} {xs : List V} (e : Le H H') (h : SqT K H a xs) : SqT K H' a xs := by
  rcases h with (h | ⟨o, h⟩) | h
  · exact .inl (.inl (e _ _ h))
  · exact .inl (.inr ⟨o, e _ _ h⟩)
  · exact .inr h

mutual
/-- the value v is the tree d, all its lists and tuples standing in I -/
def RD (K : Fg) (I : Hp) : D → V → Prop
  | .non, v => v = .non
  | .bl b, v => v = .bl b
  | .int i, v => v = .int i
  | .str s, v => v = .str ⟨s.toArray⟩
  | .lst l, v => ∃ p vs, v = .ref p ∧ I p = some (.lst vs) ∧ RDs K I l vs
  | .tup l, v => ∃ p vs, v = .ref p ∧ I p = some (.tup vs) ∧ RDs K I l vs
  | .scr ns, v => ∃ p, v = .ref p ∧ SqL K I p (ns.map V.int)
def RDs (K : Fg) (I : Hp) : List D → List V → Prop
  | [], vs => vs = []
  | d :: l, vs => ∃ v r, vs = v :: r ∧ RD K I d v ∧ RDs K I l r
end
mutual
theorem RD.mono {K : Fg} {I I' : Hp} (e : Le I I') : ∀ {d : D} {v : V}, RD K I d v → RD K I' d v
  | .non, v, h => by simp only [RD] at h ⊢; exact h
  | .bl b, v, h => by simp only [RD] at h ⊢; exact h
  | .int i, v, h => by simp only [RD] at h ⊢; exact h
  | .str s, v, h => by simp only [RD] at h ⊢; exact h
  | .lst l, v, h => by
    simp only [RD] at h ⊢
    obtain ⟨p, vs, a, b, c⟩ := h
    exact ⟨p, vs, a, e _ _ b, RDs.mono e c⟩
  | .tup l, v, h => by
    simp only [RD] at h ⊢
    obtain ⟨p, vs, a, b, c⟩ := h
    exact ⟨p, vs, a, e _ _ b, RDs.mono e c⟩
  | .scr ns, v, h => by
    simp only [RD] at h ⊢
    obtain ⟨p, a, b⟩ := h
    exact ⟨p, a, e.sqL b⟩
theorem RDs.mono {K : Fg} {I I' : Hp} (e : Le I I') : ∀ {l : List D} {vs : List V}, RDs K I l vs → RDs K I' l vs
  | [], vs, h => by simp only [RDs] at h ⊢; exact h
  | d :: l, vs, h => by
    simp only [RDs] at h ⊢
    obtain ⟨v, r, a, b, c⟩ := h
    exact ⟨v, r, a, RD.mono e b, RDs.mono e c⟩
end
section
variable {K : Fg} {I : Hp}
theorem RDs.len : ∀ {l : List D} {vs : List V}, RDs K I l vs → vs.length = l.length
  | [], vs, h => by simp only [RDs] at h; rw [h]; rfl
  | d :: l, vs, h => by
    simp only [RDs] at h
    obtain ⟨v, r, rfl, _, c⟩ := h
    rw [List.length_cons, List.length_cons, RDs.len c]
theorem RDs.get : ∀ {l : List D} {vs : List V} {i : Nat} {v : V}, RDs K I l vs → vs[i]? = some v → ∃ d, l[i]? = some d ∧ RD K I d v
  | [], vs, i, v, h, e => by simp only [RDs] at h; subst h; simp at e
  | d :: l, vs, 0, v, h, e => by
    simp only [RDs] at h
    obtain ⟨w, r, rfl, b, _⟩ := h
    simp at e; subst e
    exact ⟨d, rfl, b⟩
  | d :: l, vs, i + 1, v, h, e => by
    simp only [RDs] at h
    obtain ⟨w, r, rfl, _, c⟩ := h
    simp at e
    obtain ⟨d', h1, h2⟩ := RDs.get c e
    exact ⟨d', by simpa using h1, h2⟩
theorem RDs.get' : ∀ {l : List D} {vs : List V} {i : Nat} {d : D}, RDs K I l vs → l[i]? = some d → ∃ v, vs[i]? = some v ∧ RD K I d v
  | [], vs, i, d, h, e => by simp at e
  | d :: l, vs, 0, d', h, e => by
    simp only [RDs] at h
    obtain ⟨w, r, rfl, b, _⟩ := h
    simp at e; subst e
    exact ⟨w, rfl, b⟩
  | d :: l, vs, i + 1, d', h, e => by
    simp only [RDs] at h
    obtain ⟨w, r, rfl, _, c⟩ := h
    simp at e
    obtain ⟨v', h1, h2⟩ := RDs.get' c e
    exact ⟨v', by simpa using h1, h2⟩
theorem RDs.app : ∀ {l m : List D} {vs ws : List V}, RDs K I l vs → RDs K I m ws → RDs K I (l ++ m) (vs ++ ws)
  | [], m, vs, ws, h, q => by simp only [RDs] at h; subst h; exact q
  | d :: l, m, vs, ws, h, q => by
    simp only [RDs] at h
    obtain ⟨w, r, rfl, b, c⟩ := h
    show RDs K I (d :: (l ++ m)) (w :: (r ++ ws))
    simp only [RDs]
    exact ⟨w, _, rfl, b, RDs.app c q⟩
theorem RDs.nil : RDs K I [] [] := by simp only [RDs]
theorem RDs.cons {d : D} {l : List D} {v : V} {vs : List V} (h : RD K I d v) (q : RDs K I l vs) : RDs K I (d :: l) (v :: vs) := by
  simp only [RDs]; exact ⟨v, vs, rfl, h, q⟩
theorem RDs.take : ∀ {l : List D} {vs : List V} (n : Nat), RDs K I l vs → RDs K I (l.take n) (vs.take n)
  | _, _, 0, _ => by simp only [List.take_zero]; exact RDs.nil
  | [], vs, n + 1, h => by simp only [RDs] at h; subst h; exact RDs.nil
  | d :: l, vs, n + 1, h => by
    simp only [RDs] at h
    obtain ⟨w, r, rfl, b, c⟩ := h
    exact RDs.cons b (RDs.take n c)
theorem RDs.drop : ∀ {l : List D} {vs : List V} (n : Nat), RDs K I l vs → RDs K I (l.drop n) (vs.drop n)
  | _, _, 0, h => h
  | [], vs, n + 1, h => by simp only [RDs] at h; subst h; exact RDs.nil
  | d :: l, vs, n + 1, h => by
    simp only [RDs] at h
    obtain ⟨w, r, rfl, b, c⟩ := h
    exact RDs.drop n c
theorem RDs.rev : ∀ {l : List D} {vs : List V}, RDs K I l vs → RDs K I l.reverse vs.reverse
  | [], vs, h => by simp only [RDs] at h; subst h; exact RDs.nil
  | d :: l, vs, h => by
    simp only [RDs] at h
    obtain ⟨w, r, rfl, b, c⟩ := h
    rw [List.reverse_cons, List.reverse_cons]
    exact RDs.app (RDs.rev c) (RDs.cons b RDs.nil)
theorem RDs.set : ∀ {l : List D} {vs : List V} {d : D} {v : V} (i : Nat), RDs K I l vs → RD K I d v → RDs K I (l.set i d) (vs.set i v)
  | [], vs, d, v, i, h, q => by simp only [RDs] at h; subst h; exact RDs.nil
  | d :: l, vs, d', v, 0, h, q => by
    simp only [RDs] at h
    obtain ⟨w, r, rfl, b, c⟩ := h
    exact RDs.cons q c
  | d :: l, vs, d', v, i + 1, h, q => by
    simp only [RDs] at h
    obtain ⟨w, r, rfl, b, c⟩ := h
    exact RDs.cons b (RDs.set i c q)
theorem RDs.ofAll {l : List D} {vs : List V} (hl : vs.length = l.length) (h : ∀ (i : Nat) (d : D) (v : V), l[i]? = some d → vs[i]? = some v → RD K I d v) : RDs K I l vs := by
  induction l generalizing vs with
  | nil => cases vs with
    | nil => exact RDs.nil
    | cons v r => simp at hl
  | cons d l ih => cases vs with
    | nil => simp at hl
    | cons v r =>
      refine RDs.cons (h 0 d v rfl rfl) (ih (by simpa using hl) fun i d' v' h1 h2 => h (i + 1) d' v' (by simpa using h1) (by simpa using h2))
end


/-! trees some lists of which are one's own -/
inductive OT where | imm (d : D) | lst (l : List OT) | tup (l : List OT)
  deriving Inhabited
mutual
def OT.clr : OT → D
  | .imm d => d
  | .lst l => .lst (OT.clrs l)
  | .tup l => .tup (OT.clrs l)
def OT.clrs : List OT → List D
  | [] => []
  | t :: l => OT.clr t :: OT.clrs l
end
mutual
/-- the value v is the tree t; L: its own lists, which I does not tell -/
def RO (K : Fg) (I H : Hp) : OT → V → List Addr → Prop
  | .imm d, v, L => RD K I d v ∧ L = []
  | .lst l, v, L => ∃ p vs M, v = .ref p ∧ H p = some (.lst vs) ∧ I p = none ∧ ROs K I H l vs M ∧ L = p :: M
  | .tup l, v, L => ∃ p vs, v = .ref p ∧ I p = some (.tup vs) ∧ ROs K I H l vs L
def ROs (K : Fg) (I H : Hp) : List OT → List V → List Addr → Prop
  | [], vs, L => vs = [] ∧ L = []
  | t :: l, vs, L => ∃ v r M N, vs = v :: r ∧ RO K I H t v M ∧ ROs K I H l r N ∧ L = M ++ N
end
mutual
theorem RO.mono {K : Fg} {I H I' H' : Hp} (e : Le I I') : ∀ {t : OT} {v : V} {L : List Addr}, RO K I H t v L → (∀ p o, p ∈ L → I p = none → H p = some o → I' p = none ∧ H' p = some o) → RO K I' H' t v L
  | .imm d, v, L, h, k => by
    simp only [RO] at h ⊢
    exact ⟨RD.mono e h.1, h.2⟩
  | .lst l, v, L, h, k => by
    simp only [RO] at h ⊢
    obtain ⟨p, vs, M, a, b, c, d, rfl⟩ := h
    obtain ⟨k1, k2⟩ := k p _ List.mem_cons_self c b
    exact ⟨p, vs, M, a, k2, k1, ROs.mono e d (fun q o hq => k q o (List.mem_cons_of_mem _ hq)), rfl⟩
  | .tup l, v, L, h, k => by
    simp only [RO] at h ⊢
    obtain ⟨p, vs, a, b, c⟩ := h
    exact ⟨p, vs, a, e _ _ b, ROs.mono e c k⟩
theorem ROs.mono {K : Fg} {I H I' H' : Hp} (e : Le I I') : ∀ {l : List OT} {vs : List V} {L : List Addr}, ROs K I H l vs L → (∀ p o, p ∈ L → I p = none → H p = some o → I' p = none ∧ H' p = some o) → ROs K I' H' l vs L
  | [], vs, L, h, k => by simp only [ROs] at h ⊢; exact h
  | t :: l, vs, L, h, k => by
    simp only [ROs] at h ⊢
    obtain ⟨v, r, M, N, a, b, c, rfl⟩ := h
    exact ⟨v, r, M, N, a, RO.mono e b (fun q o hq => k q o (List.mem_append_left _ hq)), ROs.mono e c (fun q o hq => k q o (List.mem_append_right _ hq)), rfl⟩
end
mutual
theorem RO.toRD {K : Fg} {I H : Hp} (e : Le I H) : ∀ {t : OT} {v : V} {L : List Addr}, RO K I H t v L → RD K H t.clr v
  | .imm d, v, L, h => by
    simp only [RO] at h
    exact RD.mono e h.1
  | .lst l, v, L, h => by
    simp only [RO] at h
    obtain ⟨p, vs, M, a, b, c, d, rfl⟩ := h
    simp only [OT.clr, RD]
    exact ⟨p, vs, a, b, ROs.toRD e d⟩
  | .tup l, v, L, h => by
    simp only [RO] at h
    obtain ⟨p, vs, a, b, c⟩ := h
    simp only [OT.clr, RD]
    exact ⟨p, vs, a, e _ _ b, ROs.toRD e c⟩
theorem ROs.toRD {K : Fg} {I H : Hp} (e : Le I H) : ∀ {l : List OT} {vs : List V} {L : List Addr}, ROs K I H l vs L → RDs K H (OT.clrs l) vs
  | [], vs, L, h => by simp only [ROs] at h; simp only [OT.clrs, RDs]; exact h.1
  | t :: l, vs, L, h => by
    simp only [ROs] at h
    obtain ⟨v, r, M, N, a, b, c, rfl⟩ := h
    simp only [OT.clrs, RDs]
    exact ⟨v, r, a, RO.toRD e b, ROs.toRD e c⟩
end
mutual
theorem RO.own {K : Fg} {I H : Hp} : ∀ {t : OT} {v : V} {L : List Addr}, RO K I H t v L → ∀ p ∈ L, I p = none ∧ ∃ vs, H p = some (.lst vs)
  | .imm d, v, L, h => by
    simp only [RO] at h
    rw [h.2]; simp
  | .lst l, v, L, h => by
    simp only [RO] at h
    obtain ⟨p, vs, M, a, b, c, d, rfl⟩ := h
    intro q hq
    rcases List.mem_cons.mp hq with rfl | hq
    · exact ⟨c, vs, b⟩
    · exact ROs.own d q hq
  | .tup l, v, L, h => by
    simp only [RO] at h
    obtain ⟨p, vs, a, b, c⟩ := h
    exact ROs.own c
theorem ROs.own {K : Fg} {I H : Hp} : ∀ {l : List OT} {vs : List V} {L : List Addr}, ROs K I H l vs L → ∀ p ∈ L, I p = none ∧ ∃ ws, H p = some (.lst ws)
  | [], vs, L, h => by simp only [ROs] at h; rw [h.2]; simp
  | t :: l, vs, L, h => by
    simp only [ROs] at h
    obtain ⟨v, r, M, N, a, b, c, rfl⟩ := h
    intro q hq
    rcases List.mem_append.mp hq with hq | hq
    · exact RO.own b q hq
    · exact ROs.own c q hq
end

/-! slots -/
inductive Sl where | non | imm (d : D) | own (l : List D) | deep (t : OT)
  deriving Inhabited
abbrev Env := List Sl
/-- F: the lists that a slot owns -/
structure Fp (K : Fg) (O : Addr → Prop) (I H : Hp) (σ : L2.St) (env : Env) (F : Nat → List Addr) : Prop where
  fo : ∀ (i : Nat) (a : Addr), a ∈ F i → O a ∧ I a = none
  nd : ∀ i : Nat, (F i).Nodup
  dj : ∀ (i j : Nat) (a : Addr), a ∈ F i → a ∈ F j → i = j
  own : ∀ (i : Nat) (l : List D), env[i]? = some (.own l) → ∃ (p : Addr) (vs : List V), σ[i]? = some (some (.ref p)) ∧ F i = [p] ∧ H p = some (.lst vs) ∧ RDs K I l vs
  deep : ∀ (i : Nat) (t : OT), env[i]? = some (.deep t) → ∃ v : V, σ[i]? = some (some v) ∧ RO K I H t v (F i)
structure SR (K : Fg) (O : Addr → Prop) (I H : Hp) (σ : L2.St) (env : Env) : Prop where
  len : env.length = σ.length
  ext : Le I H
  oh : ∀ a, O a → H a ≠ none
  imm : ∀ (i : Nat) (d : D), env[i]? = some (.imm d) → ∃ v, σ[i]? = some (some v) ∧ RD K I d v
  fp : ∃ F, Fp K O I H σ env F

structure Stp (O : Addr → Prop) (I H I' H' : Hp) : Prop where
  ii : Le I I'
  hh : ∀ a o, ¬ O a → H a = some o → H' a = some o
  nn : ∀ a, H a ≠ none → H' a ≠ none
  fr : ∀ a, ¬ O a → I a = none → H a ≠ none → I' a = none
theorem Stp.refl {O : Addr → Prop} {I H : Hp} : Stp O I H I H := ⟨Le.rfl', fun _ _ _ h => h, fun _ h => h, fun _ _ h _ => h⟩
theorem Stp.tr {O : Addr → Prop} {I H I1 H1 I2 H2 : Hp} (a : Stp O I H I1 H1) (b : Stp O I1 H1 I2 H2) : Stp O I H I2 H2 :=
  ⟨a.ii.tr b.ii, fun x o n h => b.hh x o n (a.hh x o n h), fun x h => b.nn x (a.nn x h), fun x n h1 h2 => b.fr x n (a.fr x n h1 h2) (a.nn x h2)⟩
theorem Stp.gone {O : Addr → Prop} {I H I1 H1 : Hp} (a : Stp O I H I1 H1) {p : Addr} (h : H1 p = none) : H p = none := by
  cases e : H p with
  | none => rfl
  | some o => exact absurd h (a.nn p (by rw [e]; simp))
theorem Stp.sub {O O' : Addr → Prop} {I H I' H' : Hp} (a : Stp O I H I' H') (h : ∀ x, O x → H x ≠ none → O' x) : Stp O' I H I' H' :=
  ⟨a.ii, fun x o n e => a.hh x o (fun z => n (h x z (by rw [e]; simp))) e, a.nn, fun x n h1 h2 => a.fr x (fun z => n (h x z h2)) h1 h2⟩

/-- what an expression gives: a tree, a new list, a new tree of own lists, or what a slot owns -/
inductive Val where | imm (d : D) | cell (l : List D) | deep (t : OT) | view (i : Nat)
  deriving Inhabited
def VR (K : Fg) (Hs I H : Hp) (σ : L2.St) : Val → V → Prop
  | .imm d, v => RD K I d v
  | .cell l, v => ∃ (p : Addr) (vs : List V), v = .ref p ∧ Hs p = none ∧ I p = none ∧ H p = some (.lst vs) ∧ RDs K I l vs
  | .deep t, v => ∃ L : List Addr, RO K I H t v L ∧ L.Nodup ∧ ∀ a ∈ L, Hs a = none
  | .view i, v => σ[i]? = some (some v)
section
variable {K : Fg} {O : Addr → Prop} {I H I' H' Hs : Hp} {σ : L2.St} {env env' : Env} {vl : Val} {v : V}
/-- a value stands while the machine goes on -/
theorem VR.step (h : VR K Hs I H σ vl v) (so : ∀ a, O a → Hs a ≠ none) (st : Stp O I H I' H') : VR K Hs I' H' σ vl v := by
  cases vl with
  | imm d => exact RD.mono st.ii h
  | cell l =>
    obtain ⟨p, vs, a, b, c, d, e⟩ := h
    exact ⟨p, vs, a, b, st.fr p (fun z => so p z b) c (by rw [d]; simp), st.hh p _ (fun z => so p z b) d, RDs.mono st.ii e⟩
  | deep t =>
    obtain ⟨L, a, b, c⟩ := h
    exact ⟨L, RO.mono st.ii a (fun p o hp hi hh => ⟨st.fr p (fun z => so p z (c p hp)) hi (by rw [hh]; simp), st.hh p o (fun z => so p z (c p hp)) hh⟩), b, c⟩
  | view i => exact h
theorem VR.from {Hs' : Hp} (h : VR K Hs I H σ vl v) (q : ∀ a, Hs a = none → Hs' a = none) : VR K Hs' I H σ vl v := by
  cases vl with
  | imm d => exact h
  | cell l =>
    obtain ⟨p, vs, a, b, c, d, e⟩ := h
    exact ⟨p, vs, a, q p b, c, d, e⟩
  | deep t =>
    obtain ⟨L, a, b, c⟩ := h
    exact ⟨L, a, b, fun x hx => q x (c x hx)⟩
  | view i => exact h
end

/-- the tree of what stands in a slot -/
def Sl.get : Sl → Option D
  | .imm d => some d
  | .own l => some (.lst l)
  | .deep t => some t.clr
  | .non => none
/-- the tree of a value -/
def getv (env : Env) : Val → Option D
  | .imm d => some d
  | .cell l => some (.lst l)
  | .deep t => some t.clr
  | .view i => match env[i]? with | some s => s.get | none => none
/-- a container is read in H, its items stand in I (or, of a tree of own lists, in H alone: then flat ones) -/
def RC (K : Fg) (I H : Hp) : D → V → Prop
  | .lst l, v => ∃ p vs, v = .ref p ∧ H p = some (.lst vs) ∧ RDs K I l vs
  | d, v => RD K I d v
/-- the same for a value whose items can be handed on -/
def getc (env : Env) : Val → Option D
  | .imm d => some d
  | .cell l => some (.lst l)
  | .deep _ => none
  | .view i => match env[i]? with | some (.imm d) => some d | some (.own l) => some (.lst l) | _ => none
section
variable {K : Fg} {O : Addr → Prop} {I H I' H' Hs : Hp} {σ : L2.St} {env env' : Env} {vl : Val} {v : V} {d : D}
theorem RC.of_RD {d : D} (e : Le I H) (h : RD K I d v) : RC K I H d v := by
  cases d with
  | lst l => simp only [RD] at h; obtain ⟨p, vs, a, b, c⟩ := h; exact ⟨p, vs, a, e _ _ b, c⟩
  | tup l => exact h
  | non => exact h
  | bl b => exact h
  | int i => exact h
  | str s => exact h
  | scr ns => exact h
theorem RC.to_RD {d : D} (e : Le I H) (h : RC K I H d v) : RD K H d v := by
  cases d with
  | lst l => obtain ⟨p, vs, a, b, c⟩ := h; simp only [RD]; exact ⟨p, vs, a, b, RDs.mono e c⟩
  | tup l => exact RD.mono e h
  | non => exact RD.mono e h
  | bl b => exact RD.mono e h
  | int i => exact RD.mono e h
  | str s => exact RD.mono e h
  | scr ns => exact RD.mono e h
theorem VR.rc (h : VR K Hs I H σ vl v) (sr : SR K O I H σ env) (e : getc env vl = some d) : RC K I H d v := by
  cases vl with
  | imm d' => cases e; exact RC.of_RD sr.ext h
  | cell l =>
    cases e
    obtain ⟨p, vs, a, b, c, d, e⟩ := h
    exact ⟨p, vs, a, d, e⟩
  | deep t => cases e
  | view i =>
    have h : σ[i]? = some (some v) := h
    simp only [getc] at e
    cases q : env[i]? with
    | none => rw [q] at e; cases e
    | some s =>
      rw [q] at e
      cases s with
      | non => cases e
      | deep t => cases e
      | imm d' =>
        obtain rfl : d' = d := Option.some.inj e
        obtain ⟨w, a, b⟩ := sr.imm i d' q
        rw [h] at a; cases a
        exact RC.of_RD sr.ext b
      | own l =>
        cases e
        obtain ⟨F, fp⟩ := sr.fp
        obtain ⟨p, vs, c, _, f, g⟩ := fp.own i l q
        rw [h] at c; cases c
        exact ⟨p, vs, rfl, f, g⟩
theorem VR.rd (h : VR K Hs I H σ vl v) (sr : SR K O I H σ env) (e : getv env vl = some d) : RD K H d v := by
  cases vl with
  | imm d' => cases e; exact RD.mono sr.ext h
  | cell l =>
    cases e
    obtain ⟨p, vs, a, b, c, d, e⟩ := h
    simp only [RD]
    exact ⟨p, vs, a, d, RDs.mono sr.ext e⟩
  | deep t =>
    cases e
    obtain ⟨L, a, _, _⟩ := h
    exact RO.toRD sr.ext a
  | view i =>
    have h : σ[i]? = some (some v) := h
    simp only [getv] at e
    cases q : env[i]? with
    | none => rw [q] at e; cases e
    | some s =>
      rw [q] at e
      cases s with
      | non => cases e
      | deep t =>
        cases e
        obtain ⟨F, fp⟩ := sr.fp
        obtain ⟨w, a, b⟩ := fp.deep i t q
        rw [h] at a; cases a
        exact RO.toRD sr.ext b
      | imm d' =>
        obtain rfl : d' = d := Option.some.inj e
        obtain ⟨w, a, b⟩ := sr.imm i d' q
        rw [h] at a; cases a
        exact RD.mono sr.ext b
      | own l =>
        cases e
        obtain ⟨F, fp⟩ := sr.fp
        obtain ⟨p, vs, c, _, f, g⟩ := fp.own i l q
        rw [h] at c; cases c
        simp only [RD]
        exact ⟨p, vs, rfl, f, RDs.mono sr.ext g⟩
/-- changes of the heap that leave what is known -/
theorem SR.step (sr : SR K O I H σ env) (st : Stp O I H I' H') (e : Le I' H') (k : ∀ a, O a → H' a = H a) (ki : ∀ a, O a → I a = none → I' a = none) : SR K O I' H' σ env := by
  refine ⟨sr.len, e, fun a h => st.nn a (sr.oh a h), fun i d h => let ⟨v, a, b⟩ := sr.imm i d h; ⟨v, a, RD.mono st.ii b⟩, ?_⟩
  obtain ⟨F, fp⟩ := sr.fp
  have fr : ∀ i a, a ∈ F i → I' a = none := fun i a h => ki a (fp.fo i a h).1 (fp.fo i a h).2
  refine ⟨F, fun i a h => ⟨(fp.fo i a h).1, fr i a h⟩, fp.nd, fp.dj, fun i l h => ?_, fun i t h => ?_⟩
  · obtain ⟨p, vs, a, b, c, d⟩ := fp.own i l h
    exact ⟨p, vs, a, b, by rw [k p (fp.fo i p (by rw [b]; simp)).1]; exact c, RDs.mono st.ii d⟩
  · obtain ⟨v, a, b⟩ := fp.deep i t h
    exact ⟨v, a, RO.mono st.ii b fun p o hp _ hh => ⟨fr i p hp, by rw [k p (fp.fo i p hp).1]; exact hh⟩⟩
/-- a new object, not told in I -/
theorem Stp.newH {p : Addr} {o : HO} (hp : H p = none) : Stp O I H I (upd H p o) :=
  ⟨Le.rfl', fun a u _ e => Le.new hp a u e, fun a h z => by
    by_cases e : a = p
    · exact h (by rw [e]; exact hp)
    · rw [upd_ne e] at z; exact h z, fun _ _ h _ => h⟩
/-- a new object, told in I -/
theorem Stp.newI {p : Addr} {o : HO} (e : Le I H) (hp : H p = none) : Stp O I H (upd I p o) (upd H p o) := by
  have hi : I p = none := by
    cases q : I p with
    | none => rfl
    | some u => rw [e p u q] at hp; cases hp
  refine ⟨Le.new hi, fun a u _ e => Le.new hp a u e, fun a h z => ?_, fun a _ h1 h2 => ?_⟩
  · by_cases e : a = p
    · exact h (by rw [e]; exact hp)
    · rw [upd_ne e] at z; exact h z
  · by_cases e : a = p
    · exact absurd (by rw [e]; exact hp) h2
    · rw [upd_ne e]; exact h1
theorem Le.upd2 {p : Addr} {o : HO} (e : Le I H) : Le (upd I p o) (upd H p o) := fun a u h => by
  by_cases q : a = p
  · rw [q, upd_same] at h ⊢; exact h
  · rw [upd_ne q] at h ⊢; exact e a u h
theorem none_of_le {p : Addr} (e : Le I H) (hp : H p = none) : I p = none := by
  cases q : I p with
  | none => rfl
  | some u => rw [e p u q] at hp; cases hp
theorem SR.newH {p : Addr} {o : HO} (sr : SR K O I H σ env) (hp : H p = none) : SR K O I (upd H p o) σ env :=
  sr.step (Stp.newH hp) (sr.ext.tr (Le.new hp)) (fun a h => upd_ne fun e => sr.oh a h (by rw [e]; exact hp)) fun _ _ h => h
theorem SR.newI {p : Addr} {o : HO} (sr : SR K O I H σ env) (hp : H p = none) : SR K O (upd I p o) (upd H p o) σ env :=
  sr.step (Stp.newI sr.ext hp) sr.ext.upd2 (fun a h => upd_ne fun e => sr.oh a h (by rw [e]; exact hp)) fun a h q => by rw [upd_ne fun e => sr.oh a h (by rw [e]; exact hp)]; exact q
theorem Le.upd1 {p : Addr} {o : HO} (e : Le I H) (h : H p = some o) : Le (upd I p o) H := fun a u q => by
  by_cases z : a = p
  · rw [z, upd_same] at q; rw [z, h]; exact q
  · rw [upd_ne z] at q; exact e a u q
/-- a new list is told: from now on it stands -/
theorem Stp.froze {p : Addr} {o : HO} (h0 : Hs p = none) (hi : I p = none) (st : Stp O I' Hs I H) : Stp O I' Hs (upd I p o) H :=
  ⟨st.ii.tr (Le.new hi), st.hh, st.nn, fun a n h1 h2 => by rw [upd_ne (fun e => h2 (by rw [e]; exact h0))]; exact st.fr a n h1 h2⟩
theorem SR.froze {p : Addr} {o : HO} (sr : SR K O I H σ env) (ho : ¬ O p) (hi : I p = none) (hp : H p = some o) : SR K O (upd I p o) H σ env := by
  refine ⟨sr.len, sr.ext.upd1 hp, sr.oh, fun i d h => let ⟨v, a, b⟩ := sr.imm i d h; ⟨v, a, RD.mono (Le.new hi) b⟩, ?_⟩
  obtain ⟨F, fp⟩ := sr.fp
  have nf : ∀ i a, a ∈ F i → upd I p o a = none := fun i a h => by
    rw [upd_ne (fun e : a = p => ho (e ▸ (fp.fo i a h).1))]; exact (fp.fo i a h).2
  refine ⟨F, fun i a h => ⟨(fp.fo i a h).1, nf i a h⟩, fp.nd, fp.dj, fun i l h => ?_, fun i t h => ?_⟩
  · obtain ⟨q, vs, a, b, c, d⟩ := fp.own i l h
    exact ⟨q, vs, a, b, c, RDs.mono (Le.new hi) d⟩
  · obtain ⟨v, a, b⟩ := fp.deep i t h
    exact ⟨v, a, RO.mono (Le.new hi) b fun q u hq _ hh => ⟨nf i q hq, hh⟩⟩
end
/-! outcomes -/
inductive Out (α : Type) where
  | ok (a : α) (env : Env) | ex (c : Str) (d : D) (env : Env) | bad
def Out.bind {α β : Type} : Out α → (α → Env → Out β) → Out β
  | .ok a e, k => k a e
  | .ex c d e, _ => .ex c d e
  | .bad, _ => .bad
@[simp] theorem Out.bind_ok {α β : Type} (a : α) (e : Env) (k : α → Env → Out β) : (Out.ok a e).bind k = k a e := rfl
@[simp] theorem Out.bind_ex {α β : Type} (c : Str) (d : D) (e : Env) (k : α → Env → Out β) : (Out.ex c d e : Out α).bind k = .ex c d e := rfl
@[simp] theorem Out.bind_bad {α β : Type} (k : α → Env → Out β) : (Out.bad : Out α).bind k = .bad := rfl

/-- what is asked of the surroundings: the module's part, where the classes of errors stand, what is wanted of an error -/
structure Srd where
  K : Fg
  ca : Str → Addr
  W : WX

def PExc (S : Srd) (O : Addr → Prop) (I H : Hp) (σ : L2.St) (c : Str) (d : D) (env' : Env) : Prop :=
  ∀ dd v I' H', Stp O I H I' H' → SR S.K O I' H' σ env' → H dd = none → H' dd = some (.xd [(("value" : Str), v)]) → RD S.K I' d v → S.W (.ref (S.ca c)) (some dd) σ H'
def Post {α : Type} (S : Srd) (O : Addr → Prop) (I H : Hp) (σ : L2.St) (env : Env) (o : Out α) (R : α → Env → Hp → Hp → Prop) : Prop :=
  match o with
  | .ok a env' => ∀ I' H', Stp O I H I' H' → SR S.K O I' H' σ env' → R a env' I' H'
  | .ex c d env' => PExc S O I H σ c d env'
  | .bad => False
section
variable {α β : Type} {S : Srd} {O : Addr → Prop} {I H I' H' : Hp} {σ : L2.St} {env env' : Env} {o : Out α}
theorem PExc.step {c : Str} {d : D} (h : PExc S O I H σ c d env') (st : Stp O I H I' H') : PExc S O I' H' σ c d env' :=
  fun dd v I2 H2 s2 r2 n e r => h dd v I2 H2 (st.tr s2) r2 (st.gone n) e r
theorem Post.bind {k : α → Env → Out β} {R : β → Env → Hp → Hp → Prop} (h : Post S O I H σ env (o.bind k) R) :
    Post S O I H σ env o fun a env' I' H' => Post S O I' H' σ env' (k a env') R := by
  cases o with
  | bad => exact h
  | ex c d e => exact h
  | ok a e =>
    intro I1 H1 st sr
    have h : Post S O I H σ env (k a e) R := h
    cases q : k a e with
    | bad => rw [q] at h; exact h
    | ex c d e' => rw [q] at h; exact PExc.step h st
    | ok b e' =>
      rw [q] at h
      exact fun I2 H2 st2 sr2 => h I2 H2 (st.tr st2) sr2
theorem Post.imp {R R' : α → Env → Hp → Hp → Prop} (h : Post S O I H σ env o R) (k : ∀ a env' I' H', Stp O I H I' H' → SR S.K O I' H' σ env' → R a env' I' H' → R' a env' I' H') : Post S O I H σ env o R' := by
  cases o with
  | bad => exact h
  | ex c d e => exact h
  | ok a e => exact fun I1 H1 st sr => k a e I1 H1 st sr (h I1 H1 st sr)
end

/-- the reading of an expression that gives what f says -/
def rd (S : Srd) (f : Env → Out Val) : TE := fun σ H Q => ∃ O I env, SR S.K O I H σ env ∧
  Post S O I H σ env (f env) fun vl env' I' H' => ∀ v, VR S.K H I' H' σ vl v → Q v H'
def rdT (S : Srd) (f : Env → Out Bool) : TT := fun σ H Q => ∃ O I env, SR S.K O I H σ env ∧
  Post S O I H σ env (f env) fun b _ _ H' => Q b H'
/-- several, from the left -/
def VRs (K : Fg) (Hs I H : Hp) (σ : L2.St) : List Val → List V → Prop := Paired (VR K Hs I H σ)
def rdA (S : Srd) (f : Env → Out (List Val)) : TA := fun σ H Q => ∃ O I env, SR S.K O I H σ env ∧
  Post S O I H σ env (f env) fun vl env' I' H' => ∀ vs, VRs S.K H I' H' σ vl vs → Q vs H'

theorem PE.imp {X : Cx} {e : Expr} {t t' : TE} (h : PE X e t) (k : ∀ σ H Q, t' σ H Q → t σ H Q) : PE X e t' := ⟨fun pins s σ H Q I q => h.run pins s σ H Q I (k σ H Q q)⟩
theorem PT.imp {X : Cx} {e : Expr} {t t' : TT} (h : PT X e t) (k : ∀ σ H Q, t' σ H Q → t σ H Q) : PT X e t' := ⟨fun pins s σ H Q I q => h.run pins s σ H Q I (k σ H Q q)⟩
theorem PW.imp {X : Cx} {e : Expr} {t t' : TT} (h : PW X e t) (k : ∀ σ H Q, t' σ H Q → t σ H Q) : PW X e t' := ⟨fun w pins s σ H Q I q => h.run w pins s σ H Q I (k σ H Q q)⟩
theorem PA.imp {X : Cx} {e : List Expr} {t t' : TA} (h : PA X e t) (k : ∀ σ H Q, t' σ H Q → t σ H Q) : PA X e t' := ⟨fun p pins s σ H Q I q => h.run p pins s σ H Q I (k σ H Q q)⟩
theorem PS.imp {X : Cx} {e : Stmt} {t t' : TS} (h : PS X e t) (k : ∀ D σ H, t' D σ H → t D σ H) : PS X e t' := ⟨fun pins s σ H D I q => h.run pins s σ H D I (k D σ H q)⟩
theorem PSs.imp {X : Cx} {e : List Stmt} {t t' : TS} (h : PSs X e t) (k : ∀ D σ H, t' D σ H → t D σ H) : PSs X e t' := ⟨fun pins s σ H D I q => h.run pins s σ H D I (k D σ H q)⟩

/-! what an operation on trees gives -/
inductive OR where | val (d : D) | new (l : List D) | newt (l : List D) | bad
def orV : OR → Env → Out Val
  | .val d, e => .ok (.imm d) e
  | .new l, e => .ok (.cell l) e
  | .newt l, e => .ok (.imm (.tup l)) e
  | .bad, _ => .bad
/-- the wish behind an operation -/
def OrQ (K : Fg) (I H : Hp) (Q : VK) : OR → Prop
  | .val d => ∀ z, RD K I d z → Q z H
  | .new l => ∀ p vs, H p = none → RDs K I l vs → Q (.ref p) (upd H p (.lst vs))
  | .newt l => ∀ p vs, H p = none → RDs K I l vs → Q (.ref p) (upd H p (.tup vs))
  | .bad => False
section
variable {S : Srd} {O : Addr → Prop} {I H Hs : Hp} {σ : L2.St} {env : Env} {Q : VK} {r : OR}
theorem orQ_of (sr : SR S.K O I H σ env) (hs : ∀ a, H a = none → Hs a = none)
    (h : Post S O I H σ env (orV r env) fun vl env' I' H' => ∀ v, VR S.K Hs I' H' σ vl v → Q v H') : OrQ S.K I H Q r := by
  cases r with
  | bad => exact h
  | val d => exact fun z q => h I H Stp.refl sr z q
  | new l =>
    exact fun p vs hp q => h I (upd H p (.lst vs)) (Stp.newH hp) (sr.newH hp) (.ref p) ⟨p, vs, rfl, hs p hp, none_of_le sr.ext hp, upd_same, q⟩
  | newt l =>
    refine fun p vs hp q => h (upd I p (.tup vs)) (upd H p (.tup vs)) (Stp.newI sr.ext hp) (sr.newI hp) (.ref p) ?_
    show RD S.K _ (.tup l) _
    simp only [RD]
    exact ⟨p, vs, rfl, upd_same, RDs.mono (Le.new (none_of_le sr.ext hp)) q⟩
end
end TL

set_option Elab.async false
set_option linter.all false
set_option autoImplicit false
set_option maxRecDepth 100000
set_option maxHeartbeats 4000000
namespace TL
open PySem PySem.Spec PyProof.Rows L2

/-- what the rules ask of the place where the code runs -/
structure Gd (X : Cx) : Prop where
  hu : X.A.units + 80 < cLine
  hg : X.A.guards = some []
  hc : X.calm = true
  hh : X.A.handled = none

abbrev lim : Nat := 16777216
theorem lim_eq : sizeLine = lim := sizeLine_eq

/-! trees as the library's data -/
mutual
def toPy : D → PyData
  | .non => .none
  | .bl b => .bool b
  | .int i => .int i
  | .str s => .str ⟨s.toArray⟩
  | .lst l => .list (toPys l)
  | .tup l => .tuple (toPys l)
  | .scr ns => .list (ns.map .int)
def toPys : List D → List PyData
  | [] => []
  | d :: l => toPy d :: toPys l
end
mutual
theorem plain_toPy : ∀ d : D, (toPy d).plain = true
  | .non | .bl _ | .int _ | .str _ => by simp only [toPy, PyData.plain]
  | .lst l => by simp only [toPy, PyData.plain]; exact plain_toPys l
  | .tup l => by simp only [toPy, PyData.plain]; exact plain_toPys l
  | .scr ns => by
    simp only [toPy, PyData.plain]
    induction ns with
    | nil => rfl
    | cons n r ih => simp only [List.map_cons, PyData.plainAll, PyData.plain, Bool.true_and]; exact ih
theorem plain_toPys : ∀ l : List D, PyData.plainAll (toPys l) = true
  | [] => by simp only [toPys, PyData.plainAll]
  | d :: l => by simp only [toPys, PyData.plainAll, plain_toPy d, plain_toPys l, Bool.and_self]
end
theorem reads_ints {h : Heap} : ∀ {ns : List Int} {us : List Value}, Vals (ns.map V.int) us → ReadsAll h us (ns.map .int) []
  | [], us, r => by cases r; exact .nil
  | n :: ns, us, r => by
    cases r with
    | cons a b =>
      obtain ⟨t, rfl⟩ := a
      exact ReadsAll.cons (as := []) (bs := []) (.int n t) (reads_ints b)
section
variable {X : Cx} {pins : List (Addr × Obj)} {σ : L2.St} {H : Hp} {s : Shared}
mutual
theorem RD.reads (I : Inv X pins σ H s) : ∀ {d : D} {v : V} {u : Value}, RD X.K H d v → RelV v u → ∃ as, Reads s.heap u (toPy d) as
  | .non, v, u, h, r => by simp only [RD] at h; subst h; cases r; exact ⟨_, .none⟩
  | .bl b, v, u, h, r => by simp only [RD] at h; subst h; cases r; exact ⟨_, .bool b⟩
  | .int i, v, u, h, r => by simp only [RD] at h; subst h; obtain ⟨t, rfl⟩ := r; exact ⟨_, .int i t⟩
  | .str x, v, u, h, r => by simp only [RD] at h; subst h; obtain ⟨t, rfl⟩ := r; exact ⟨_, .str _ t⟩
  | .lst l, v, u, h, r => by
    simp only [RD] at h
    obtain ⟨p, vs, rfl, e, c⟩ := h
    cases r
    obtain ⟨z, its, n, rv, o⟩ := I.hok p _ e
    obtain ⟨as, ra⟩ := RDs.reads I c rv
    exact ⟨p :: as, .list o rfl rfl (by simpa using ra)⟩
  | .tup l, v, u, h, r => by
    simp only [RD] at h
    obtain ⟨p, vs, rfl, e, c⟩ := h
    cases r
    obtain ⟨z, its, rv, o, ho, hc, n, hd⟩ := I.hok p _ e
    obtain ⟨as, ra⟩ := RDs.reads I c rv
    exact ⟨as, .tuple ho hc hd (by simpa using ra)⟩
  | .scr ns, v, u, h, r => by
    simp only [RD] at h
    obtain ⟨p, rfl, e⟩ := h
    cases r
    obtain ⟨its, rv, ⟨o, n, ho, hc, hdct, hd⟩, hz⟩ := I.list e
    exact ⟨p :: [], .list ho hc hd (by simpa using reads_ints rv)⟩
theorem RDs.reads (I : Inv X pins σ H s) : ∀ {l : List D} {vs : List V} {us : List Value}, RDs X.K H l vs → Vals vs us → ∃ as, ReadsAll s.heap us (toPys l) as
  | [], vs, us, h, r => by simp only [RDs] at h; subst h; cases r; exact ⟨_, .nil⟩
  | d :: l, vs, us, h, r => by
    simp only [RDs] at h
    obtain ⟨v, w, rfl, a, b⟩ := h
    cases r with
    | cons r1 r2 =>
      obtain ⟨as, ra⟩ := RD.reads I a r1
      obtain ⟨bs, rb⟩ := RDs.reads I b r2
      exact ⟨as ++ bs, .cons ra rb⟩
end
end

/-! equality and depth -/
mutual
def eqv : D → D → Bool
  | .non, .non => true
  | .bl a, .bl b => a == b
  | .bl a, .int j => (if a then 1 else 0) == j
  | .int i, .bl b => i == (if b then 1 else 0)
  | .int i, .int j => i == j
  | .str x, .str y => x == y
  | .lst xs, .lst ys => eqvs xs ys
  | .tup xs, .tup ys => eqvs xs ys
  | _, _ => false
def eqvs : List D → List D → Bool
  | [], [] => true
  | x :: xs, y :: ys => eqv x y && eqvs xs ys
  | _, _ => false
end
mutual
def dep : D → Nat
  | .lst l => deps l + 1
  | .tup l => deps l + 1
  | .scr _ => 1
  | _ => 0
def deps : List D → Nat
  | [] => 0
  | d :: l => max (dep d) (deps l)
end
theorem deps_ints : ∀ ns : List Int, PyData.depthAll (ns.map .int) = 0
  | [] => rfl
  | n :: ns => by simp only [List.map_cons, PyData.depthAll, PyData.depth, deps_ints ns]; rfl
mutual
theorem dep_toPy : ∀ d : D, (toPy d).depth = dep d
  | .non | .bl _ | .int _ | .str _ => by simp only [toPy, PyData.depth, dep]
  | .lst l => by simp only [toPy, PyData.depth, dep, deps_toPys l]
  | .tup l => by simp only [toPy, PyData.depth, dep, deps_toPys l]
  | .scr ns => by simp only [toPy, PyData.depth, dep, deps_ints]
theorem deps_toPys : ∀ l : List D, PyData.depthAll (toPys l) = deps l
  | [] => by simp only [toPys, PyData.depthAll, deps]
  | d :: l => by simp only [toPys, PyData.depthAll, deps, dep_toPy d, deps_toPys l]
end
def noscr : D → Bool
  | .scr _ => false
  | _ => true
theorem str_beq (x y : List Nat) : ((⟨x.toArray⟩ : Str) == ⟨y.toArray⟩) = (x == y) := by
  rw [Bool.eq_iff_iff, beq_iff_eq, beq_iff_eq, Str.mk.injEq]
  constructor
  · intro h; simpa using congrArg Array.toList h
  · intro h; rw [h]
mutual
/-- no script lies within -/
def pur : D → Bool
  | .scr _ => false
  | .lst l => purs l
  | .tup l => purs l
  | _ => true
def purs : List D → Bool
  | [] => true
  | d :: l => pur d && purs l
end
mutual
theorem eqv_toPy : ∀ x y : D, pur x = true → pur y = true → PyData.eqv (toPy x) (toPy y) = eqv x y := fun x y hx hy => by
  cases x with
  | non => cases y <;> first | (simp only [toPy, PyData.eqv, eqv]; done) | (simp [pur] at hy; done)
  | bl a => cases y <;> first | (simp only [toPy, PyData.eqv, eqv]; done) | (simp [pur] at hy; done)
  | int i => cases y <;> first | (simp only [toPy, PyData.eqv, eqv]; done) | (simp [pur] at hy; done)
  | str s => cases y <;> first | (simp only [toPy, PyData.eqv, eqv]; done) | (simp [pur] at hy; done) | (simp only [toPy, PyData.eqv, eqv]; exact str_beq _ _)
  | scr ns => simp [pur] at hx
  | lst l => cases y with
    | lst m => simp only [toPy, PyData.eqv, eqv]; exact eqvs_toPy l m (by simpa [pur] using hx) (by simpa [pur] using hy)
    | _ => first | (simp only [toPy, PyData.eqv, eqv]; done) | (simp [pur] at hy; done)
  | tup l => cases y with
    | tup m => simp only [toPy, PyData.eqv, eqv]; exact eqvs_toPy l m (by simpa [pur] using hx) (by simpa [pur] using hy)
    | _ => first | (simp only [toPy, PyData.eqv, eqv]; done) | (simp [pur] at hy; done)
theorem eqvs_toPy : ∀ x y : List D, purs x = true → purs y = true → PyData.eqvAll (toPys x) (toPys y) = eqvs x y
  | [], [], _, _ => by simp only [toPys, PyData.eqvAll, eqvs]
  | [], _ :: _, _, _ => by simp only [toPys, PyData.eqvAll, eqvs]
  | _ :: _, [], _, _ => by simp only [toPys, PyData.eqvAll, eqvs]
  | a :: l, b :: m, hx, hy => by
    simp only [purs, Bool.and_eq_true] at hx hy
    simp only [toPys, PyData.eqvAll, eqvs]
    rw [eqv_toPy a b hx.1 hy.1, eqvs_toPy l m hx.2 hy.2]
end
end TL

set_option Elab.async false
set_option linter.all false
set_option autoImplicit false
set_option maxRecDepth 100000
set_option maxHeartbeats 4000000
namespace TL
open PySem PySem.Spec PyProof.Rows L2

/-! lists of values -/
def getcs (env : Env) : List Val → Option (List D)
  | [] => some []
  | x :: xs => match getc env x, getcs env xs with | some d, some l => some (d :: l) | _, _ => none
def getvs (env : Env) : List Val → Option (List D)
  | [] => some []
  | x :: xs => match getv env x, getvs env xs with | some d, some l => some (d :: l) | _, _ => none
def RCs (K : Fg) (I H : Hp) : List D → List V → Prop := Paired (RC K I H)
def RVs (K : Fg) (H : Hp) : List D → List V → Prop := Paired (RD K H)
section
variable {K : Fg} {O : Addr → Prop} {I H Hs I' H' : Hp} {σ : L2.St} {env : Env}
theorem VRs.step {xs : List Val} {vs : List V} (h : VRs K Hs I H σ xs vs) (so : ∀ a, O a → Hs a ≠ none) (st : Stp O I H I' H') : VRs K Hs I' H' σ xs vs := by
  induction h with
  | nil => exact .nil
  | cons a _ ih => exact .cons (a.step so st) ih
theorem VRs.from {Hs' : Hp} {xs : List Val} {vs : List V} (h : VRs K Hs I H σ xs vs) (q : ∀ a, Hs a = none → Hs' a = none) : VRs K Hs' I H σ xs vs := by
  induction h with
  | nil => exact .nil
  | cons a _ ih => exact .cons (a.from q) ih
theorem VRs.rcs {xs : List Val} {vs : List V} (h : VRs K Hs I H σ xs vs) (sr : SR K O I H σ env) : ∀ {ds : List D}, getcs env xs = some ds → RCs K I H ds vs := by
  induction h with
  | nil => intro ds e; cases e; exact .nil
  | cons a r ih =>
    intro ds e
    simp only [getcs] at e
    split at e
    · rename_i d l e1 e2
      cases e
      exact .cons (a.rc sr e1) (ih e2)
    · cases e
theorem VRs.rvs {xs : List Val} {vs : List V} (h : VRs K Hs I H σ xs vs) (sr : SR K O I H σ env) : ∀ {ds : List D}, getvs env xs = some ds → RVs K H ds vs := by
  induction h with
  | nil => intro ds e; cases e; exact .nil
  | cons a r ih =>
    intro ds e
    simp only [getvs] at e
    split at e
    · rename_i d l e1 e2
      cases e
      exact .cons (a.rd sr e1) (ih e2)
    · cases e
end

/-! the rules' shapes -/
def rC1 (K : Fg) (g : D → OR) : V → Hp → VK → Prop := fun x H Q => ∃ I dx, Le I H ∧ RC K I H dx x ∧ OrQ K I H Q (g dx)
def rR1 (K : Fg) (g : D → OR) : V → Hp → VK → Prop := fun x H Q => ∃ I dx, Le I H ∧ RD K H dx x ∧ OrQ K I H Q (g dx)
def rC2 (K : Fg) (g : D → D → OR) : R2 := fun x y H Q => ∃ I dx dy, Le I H ∧ RC K I H dx x ∧ RC K I H dy y ∧ OrQ K I H Q (g dx dy)
def rR2 (K : Fg) (g : D → D → OR) : R2 := fun x y H Q => ∃ I dx dy, Le I H ∧ RD K H dx x ∧ RD K H dy y ∧ OrQ K I H Q (g dx dy)
def rCn (K : Fg) (g : List D → OR) : List V → Hp → VK → Prop := fun xs H Q => ∃ I ds, Le I H ∧ RCs K I H ds xs ∧ OrQ K I H Q (g ds)
def rRn (K : Fg) (g : List D → OR) : List V → Hp → VK → Prop := fun xs H Q => ∃ I ds, Le I H ∧ RVs K H ds xs ∧ OrQ K I H Q (g ds)
def rCm (K : Fg) (g : D → List D → OR) : V → List V → Hp → VK → Prop := fun x xs H Q => ∃ I dx ds, Le I H ∧ RC K I H dx x ∧ RCs K I H ds xs ∧ OrQ K I H Q (g dx ds)
def rRm (K : Fg) (g : D → List D → OR) : V → List V → Hp → VK → Prop := fun x xs H Q => ∃ I dx ds, Le I H ∧ RD K H dx x ∧ RVs K H ds xs ∧ OrQ K I H Q (g dx ds)

/-! what they say of slots -/
abbrev SF := Env → Out Val
def sVar (i : Nat) : SF := fun e => match e[i]? with | some (.imm d) => .ok (.imm d) e | _ => .bad
def sOwn (i : Nat) : SF := fun e => match e[i]? with | some (.own _) => .ok (.view i) e | some (.deep _) => .ok (.view i) e | _ => .bad
def sC (d : D) : SF := fun e => .ok (.imm d) e
def sC1 (g : D → OR) (fa : SF) : SF := fun e => (fa e).bind fun x e1 => match getc e1 x with | some dx => orV (g dx) e1 | none => .bad
def sR1 (g : D → OR) (fa : SF) : SF := fun e => (fa e).bind fun x e1 => match getv e1 x with | some dx => orV (g dx) e1 | none => .bad
def sC2 (g : D → D → OR) (fa fb : SF) : SF := fun e => (fa e).bind fun x e1 => (fb e1).bind fun y e2 => match getc e2 x, getc e2 y with | some dx, some dy => orV (g dx dy) e2 | _, _ => .bad
def sR2 (g : D → D → OR) (fa fb : SF) : SF := fun e => (fa e).bind fun x e1 => (fb e1).bind fun y e2 => match getv e2 x, getv e2 y with | some dx, some dy => orV (g dx dy) e2 | _, _ => .bad
abbrev SA := Env → Out (List Val)
def aNil : SA := fun e => .ok [] e
def aCons (fa : SF) (fr : SA) : SA := fun e => (fa e).bind fun x e1 => (fr e1).bind fun xs e2 => .ok (x :: xs) e2
def sCn (g : List D → OR) (fr : SA) : SF := fun e => (fr e).bind fun xs e1 => match getcs e1 xs with | some ds => orV (g ds) e1 | none => .bad
def sRn (g : List D → OR) (fr : SA) : SF := fun e => (fr e).bind fun xs e1 => match getvs e1 xs with | some ds => orV (g ds) e1 | none => .bad
/-- of that built-in type -/
def isTy : String → D → Bool
  | "str", .str _ => true
  | "int", .int _ => true
  | "list", .lst _ => true
  | "list", .scr _ => true
  | _, _ => false
def sCm (T : String) (g : D → List D → OR) (fo : SF) (fr : SA) : SF := fun e => (fo e).bind fun x e1 => match getv e1 x with
  | some dx => if isTy T dx then (fr e1).bind fun xs e2 => match getc e2 x, getcs e2 xs with | some dy, some ds => orV (g dy ds) e2 | _, _ => .bad else .bad
  | none => .bad
def sRm (T : String) (g : D → List D → OR) (fo : SF) (fr : SA) : SF := fun e => (fo e).bind fun x e1 => match getv e1 x with
  | some dx => if isTy T dx then (fr e1).bind fun xs e2 => match getv e2 x, getvs e2 xs with | some dy, some ds => orV (g dy ds) e2 | _, _ => .bad else .bad
  | none => .bad

section
variable {S : Srd} {fa fb : SF} {fr : SA} {σ : L2.St} {H : Hp} {Q : VK}
theorem rd_var {i : Nat} (h : rd S (sVar i) σ H Q) : tVar i σ H Q := by
  obtain ⟨O, I, env, sr, P⟩ := h
  simp only [sVar] at P
  split at P
  · rename_i d e
    obtain ⟨v, a, b⟩ := sr.imm i d e
    exact ⟨v, a, P I H Stp.refl sr v b⟩
  · exact P.elim
theorem rd_own {i : Nat} (h : rd S (sOwn i) σ H Q) : tVar i σ H Q := by
  obtain ⟨O, I, env, sr, P⟩ := h
  obtain ⟨F, fp⟩ := sr.fp
  simp only [sOwn] at P
  split at P
  · rename_i l e
    obtain ⟨p, vs, a, _⟩ := fp.own i l e
    exact ⟨_, a, P I H Stp.refl sr _ a⟩
  · rename_i t e
    obtain ⟨v, a, _⟩ := fp.deep i t e
    exact ⟨_, a, P I H Stp.refl sr _ a⟩
  · exact P.elim
theorem rd_c {d : D} {v : V} (hd : ∀ I, RD S.K I d v) (h : rd S (sC d) σ H Q) : tC v σ H Q := by
  obtain ⟨O, I, env, sr, P⟩ := h
  exact P I H Stp.refl sr v (hd I)
theorem rd_C1 {g : D → OR} {r : V → Hp → VK → Prop} (hr : ∀ x H Q, rC1 S.K g x H Q → r x H Q) (h : rd S (sC1 g fa) σ H Q) : tUn r (rd S fa) σ H Q := by
  obtain ⟨O, I, env, sr, P⟩ := h
  refine ⟨O, I, env, sr, (Post.bind P).imp fun x e1 I1 H1 st1 sr1 P1 vx hx => ?_⟩
  cases q : getc e1 x with
  | none => rw [q] at P1; exact P1.elim
  | some dx => rw [q] at P1; exact hr _ _ _ ⟨I1, dx, sr1.ext, hx.rc sr1 q, orQ_of sr1 (fun a h => st1.gone h) P1⟩
theorem rd_R1 {g : D → OR} {r : V → Hp → VK → Prop} (hr : ∀ x H Q, rR1 S.K g x H Q → r x H Q) (h : rd S (sR1 g fa) σ H Q) : tUn r (rd S fa) σ H Q := by
  obtain ⟨O, I, env, sr, P⟩ := h
  refine ⟨O, I, env, sr, (Post.bind P).imp fun x e1 I1 H1 st1 sr1 P1 vx hx => ?_⟩
  cases q : getv e1 x with
  | none => rw [q] at P1; exact P1.elim
  | some dx => rw [q] at P1; exact hr _ _ _ ⟨I1, dx, sr1.ext, hx.rd sr1 q, orQ_of sr1 (fun a h => st1.gone h) P1⟩
theorem rd_C2 {g : D → D → OR} {r : R2} (hr : ∀ x y H Q, rC2 S.K g x y H Q → r x y H Q) (h : rd S (sC2 g fa fb) σ H Q) : tOp r (rd S fa) (rd S fb) σ H Q := by
  obtain ⟨O, I, env, sr, P⟩ := h
  refine ⟨O, I, env, sr, (Post.bind P).imp fun x e1 I1 H1 st1 sr1 P1 vx hx => ⟨O, I1, e1, sr1, (Post.bind P1).imp fun y e2 I2 H2 st2 sr2 P2 vy hy => ?_⟩⟩
  have hx2 := hx.step sr.oh st2
  cases q : getc e2 x with
  | none => rw [q] at P2; exact P2.elim
  | some dx =>
    cases q' : getc e2 y with
    | none => rw [q, q'] at P2; exact P2.elim
    | some dy =>
      rw [q, q'] at P2
      exact hr _ _ _ _ ⟨I2, dx, dy, sr2.ext, hx2.rc sr2 q, hy.rc sr2 q', orQ_of sr2 (fun a h => (st1.tr st2).gone h) P2⟩
theorem rd_R2 {g : D → D → OR} {r : R2} (hr : ∀ x y H Q, rR2 S.K g x y H Q → r x y H Q) (h : rd S (sR2 g fa fb) σ H Q) : tOp r (rd S fa) (rd S fb) σ H Q := by
  obtain ⟨O, I, env, sr, P⟩ := h
  refine ⟨O, I, env, sr, (Post.bind P).imp fun x e1 I1 H1 st1 sr1 P1 vx hx => ⟨O, I1, e1, sr1, (Post.bind P1).imp fun y e2 I2 H2 st2 sr2 P2 vy hy => ?_⟩⟩
  have hx2 := hx.step sr.oh st2
  cases q : getv e2 x with
  | none => rw [q] at P2; exact P2.elim
  | some dx =>
    cases q' : getv e2 y with
    | none => rw [q, q'] at P2; exact P2.elim
    | some dy =>
      rw [q, q'] at P2
      exact hr _ _ _ _ ⟨I2, dx, dy, sr2.ext, hx2.rd sr2 q, hy.rd sr2 q', orQ_of sr2 (fun a h => (st1.tr st2).gone h) P2⟩
theorem rdA_nil {R : List V → Hp → Prop} (h : rdA S aNil σ H R) : tNil σ H R := by
  obtain ⟨O, I, env, sr, P⟩ := h
  exact P I H Stp.refl sr [] .nil
theorem rdA_cons {R : List V → Hp → Prop} (h : rdA S (aCons fa fr) σ H R) : tCons (rd S fa) (rdA S fr) σ H R := by
  obtain ⟨O, I, env, sr, P⟩ := h
  refine ⟨O, I, env, sr, (Post.bind P).imp fun x e1 I1 H1 st1 sr1 P1 vx hx => ⟨O, I1, e1, sr1, (Post.bind P1).imp fun y e2 I2 H2 st2 sr2 P2 vy hy => ?_⟩⟩
  exact P2 I2 H2 Stp.refl sr2 _ (.cons (hx.step sr.oh st2) (hy.from fun a h => st1.gone h))
theorem rd_Cn {g : List D → OR} {r : List V → Hp → VK → Prop} (hr : ∀ x H Q, rCn S.K g x H Q → r x H Q) (h : rd S (sCn g fr) σ H Q) : tCB r (rdA S fr) σ H Q := by
  obtain ⟨O, I, env, sr, P⟩ := h
  refine ⟨O, I, env, sr, (Post.bind P).imp fun x e1 I1 H1 st1 sr1 P1 vx hx => ?_⟩
  cases q : getcs e1 x with
  | none => rw [q] at P1; exact P1.elim
  | some dx => rw [q] at P1; exact hr _ _ _ ⟨I1, dx, sr1.ext, hx.rcs sr1 q, orQ_of sr1 (fun a h => st1.gone h) P1⟩
theorem rd_Rn {g : List D → OR} {r : List V → Hp → VK → Prop} (hr : ∀ x H Q, rRn S.K g x H Q → r x H Q) (h : rd S (sRn g fr) σ H Q) : tCB r (rdA S fr) σ H Q := by
  obtain ⟨O, I, env, sr, P⟩ := h
  refine ⟨O, I, env, sr, (Post.bind P).imp fun x e1 I1 H1 st1 sr1 P1 vx hx => ?_⟩
  cases q : getvs e1 x with
  | none => rw [q] at P1; exact P1.elim
  | some dx => rw [q] at P1; exact hr _ _ _ ⟨I1, dx, sr1.ext, hx.rvs sr1 q, orQ_of sr1 (fun a h => st1.gone h) P1⟩
theorem isTy_tyV {K : Fg} {T : String} {d : D} {v : V} (h : isTy T d = true) (r : RD K H d v) : tyV K T v H := by
  unfold isTy at h
  split at h
  · simp only [RD] at r; subst r; rfl
  · simp only [RD] at r; subst r; rfl
  · simp only [RD] at r
    obtain ⟨p, vs, rfl, b, _⟩ := r
    exact Or.inl ⟨rfl, vs, SqL.of b⟩
  · simp only [RD] at r
    obtain ⟨p, rfl, b⟩ := r
    exact Or.inl ⟨rfl, _, b⟩
  · cases h
theorem rd_Cm {T : String} {g : D → List D → OR} {r : V → List V → Hp → VK → Prop} (hr : ∀ x xs H Q, rCm S.K g x xs H Q → r x xs H Q) (h : rd S (sCm T g fa fr) σ H Q) : tBM S.K T r (rd S fa) (rdA S fr) σ H Q := by
  obtain ⟨O, I, env, sr, P⟩ := h
  refine ⟨O, I, env, sr, (Post.bind P).imp fun x e1 I1 H1 st1 sr1 P1 vx hx => ?_⟩
  cases q : getv e1 x with
  | none => rw [q] at P1; exact P1.elim
  | some dx =>
    rw [q] at P1
    by_cases c : isTy T dx = true
    · simp only [c, if_true] at P1
      refine ⟨isTy_tyV c (hx.rd sr1 q), O, I1, e1, sr1, (Post.bind P1).imp fun y e2 I2 H2 st2 sr2 P2 vy hy => ?_⟩
      have hx2 := hx.step sr.oh st2
      cases q1 : getc e2 x with
      | none => rw [q1] at P2; exact P2.elim
      | some dy =>
        cases q2 : getcs e2 y with
        | none => rw [q1, q2] at P2; exact P2.elim
        | some ds =>
          rw [q1, q2] at P2
          exact hr _ _ _ _ ⟨I2, dy, ds, sr2.ext, hx2.rc sr2 q1, hy.rcs sr2 q2, orQ_of sr2 (fun a h => (st1.tr st2).gone h) P2⟩
    · simp only [c] at P1; exact P1.elim
theorem rd_Rm {T : String} {g : D → List D → OR} {r : V → List V → Hp → VK → Prop} (hr : ∀ x xs H Q, rRm S.K g x xs H Q → r x xs H Q) (h : rd S (sRm T g fa fr) σ H Q) : tBM S.K T r (rd S fa) (rdA S fr) σ H Q := by
  obtain ⟨O, I, env, sr, P⟩ := h
  refine ⟨O, I, env, sr, (Post.bind P).imp fun x e1 I1 H1 st1 sr1 P1 vx hx => ?_⟩
  cases q : getv e1 x with
  | none => rw [q] at P1; exact P1.elim
  | some dx =>
    rw [q] at P1
    by_cases c : isTy T dx = true
    · simp only [c, if_true] at P1
      refine ⟨isTy_tyV c (hx.rd sr1 q), O, I1, e1, sr1, (Post.bind P1).imp fun y e2 I2 H2 st2 sr2 P2 vy hy => ?_⟩
      have hx2 := hx.step sr.oh st2
      cases q1 : getv e2 x with
      | none => rw [q1] at P2; exact P2.elim
      | some dy =>
        cases q2 : getvs e2 y with
        | none => rw [q1, q2] at P2; exact P2.elim
        | some ds =>
          rw [q1, q2] at P2
          exact hr _ _ _ _ ⟨I2, dy, ds, sr2.ext, hx2.rd sr2 q1, hy.rvs sr2 q2, orQ_of sr2 (fun a h => (st1.tr st2).gone h) P2⟩
    · simp only [c] at P1; exact P1.elim
end

/-! tests -/
abbrev SB := Env → Out Bool
def truth : D → Option Bool
  | .non => some false
  | .bl b => some b
  | .int i => some (i != 0)
  | .str s => if s.length ≤ lim then some ((s.length : Int) != 0) else none
  | .lst l => some (!l.isEmpty)
  | .tup l => some (!l.isEmpty)
  | .scr ns => some (!ns.isEmpty)
def tTru (f : SF) : SB := fun e => (f e).bind fun x e1 => match getv e1 x with | some d => (match truth d with | some b => .ok b e1 | none => .bad) | none => .bad
def tAn (f g : SB) : SB := fun e => (f e).bind fun b e1 => if b = true then g e1 else .ok false e1
def tOr' (f g : SB) : SB := fun e => (f e).bind fun b e1 => if b = true then .ok true e1 else g e1
def tNo (f : SB) : SB := fun e => (f e).bind fun b e1 => .ok (!b) e1
def sIf (t : SB) (fa fb : SF) : SF := fun e => (t e).bind fun b e1 => if b = true then fa e1 else fb e1
def sAn (fa fb : SF) : SF := fun e => (fa e).bind fun x e1 => match x with | .imm (.bl b) => if b = true then fb e1 else .ok (.imm (.bl false)) e1 | _ => .bad
def sOr (fa fb : SF) : SF := fun e => (fa e).bind fun x e1 => match x with | .imm (.bl b) => if b = true then .ok (.imm (.bl true)) e1 else fb e1 | _ => .bad
def sNo (fa : SF) : SF := fun e => (fa e).bind fun x e1 => match x with | .imm (.bl b) => .ok (.imm (.bl (!b))) e1 | _ => .bad
section
variable {S : Srd} {fa fb : SF} {f g : SB} {σ : L2.St} {H : Hp}
theorem truV_of {K : Fg} {d : D} {v : V} {b : Bool} (r : RD K H d v) (h : truth d = some b) : TruV K v H b := by
  cases d with
  | non => simp only [RD] at r; subst r; cases h; rfl
  | bl c => simp only [RD] at r; subst r; cases h; rfl
  | int i => simp only [RD] at r; subst r; cases h; rfl
  | str s =>
    simp only [RD] at r; subst r
    simp only [truth] at h
    split at h
    · rename_i c
      cases h
      refine ⟨?_, ?_⟩
      · show s.toArray.size ≤ sizeLine
        rw [lim_eq, List.size_toArray]; exact c
      · show _ = ((s.toArray.size : Int) != 0)
        rw [List.size_toArray]
    · cases h
  | lst l =>
    simp only [RD] at r
    obtain ⟨p, vs, rfl, a, c⟩ := r
    cases h
    refine Or.inl ⟨vs, SqL.of a, ?_⟩
    have := RDs.len c
    cases vs <;> cases l <;> simp_all
  | tup l =>
    simp only [RD] at r
    obtain ⟨p, vs, rfl, a, c⟩ := r
    cases h
    refine Or.inr (Or.inl ⟨vs, SqT.of a, ?_⟩)
    have := RDs.len c
    cases vs <;> cases l <;> simp_all
  | scr ns =>
    simp only [RD] at r
    obtain ⟨p, rfl, a⟩ := r
    cases h
    exact Or.inl ⟨_, a, by cases ns <;> rfl⟩
theorem rdT_tru {Q : Bool → Hp → Prop} (h : rdT S (tTru fa) σ H Q) : (fun σ H Q => rd S fa σ H fun x H' => ∃ k, TruV S.K x H' k ∧ Q k H') σ H Q := by
  obtain ⟨O, I, env, sr, P⟩ := h
  refine ⟨O, I, env, sr, (Post.bind P).imp fun x e1 I1 H1 st1 sr1 P1 vx hx => ?_⟩
  cases q : getv e1 x with
  | none => rw [q] at P1; exact P1.elim
  | some d =>
    rw [q] at P1
    cases q2 : truth d with
    | none => simp only [q2] at P1; exact P1.elim
    | some b =>
      simp only [q2] at P1
      exact ⟨b, truV_of (hx.rd sr1 q) q2, P1 I1 H1 Stp.refl sr1⟩
theorem rdT_and {Q : Bool → Hp → Prop} (h : rdT S (tAn f g) σ H Q) : tAnd (rdT S f) (rdT S g) σ H Q := by
  obtain ⟨O, I, env, sr, P⟩ := h
  refine ⟨O, I, env, sr, (Post.bind P).imp fun b e1 I1 H1 st1 sr1 P1 => ?_⟩
  cases b with
  | true =>
    simp only [if_true] at P1 ⊢
    exact ⟨O, I1, e1, sr1, P1⟩
  | false => exact P1 I1 H1 Stp.refl sr1
theorem rdT_or {Q : Bool → Hp → Prop} (h : rdT S (tOr' f g) σ H Q) : tOr (rdT S f) (rdT S g) σ H Q := by
  obtain ⟨O, I, env, sr, P⟩ := h
  refine ⟨O, I, env, sr, (Post.bind P).imp fun b e1 I1 H1 st1 sr1 P1 => ?_⟩
  cases b with
  | true => exact P1 I1 H1 Stp.refl sr1
  | false => exact ⟨O, I1, e1, sr1, P1⟩
theorem rdT_not {Q : Bool → Hp → Prop} (h : rdT S (tNo f) σ H Q) : tNot (rdT S f) σ H Q := by
  obtain ⟨O, I, env, sr, P⟩ := h
  exact ⟨O, I, env, sr, (Post.bind P).imp fun b e1 I1 H1 st1 sr1 P1 => P1 I1 H1 Stp.refl sr1⟩
theorem post_from {α : Type} {O : Addr → Prop} {I I1 H1 : Hp} {e1 : Env} {o : Out Val} {Q : VK} (st1 : Stp O I H I1 H1)
    (P : Post S O I1 H1 σ e1 o fun vl _ I' H' => ∀ v, VR S.K H I' H' σ vl v → Q v H') : Post S O I1 H1 σ e1 o fun vl _ I' H' => ∀ v, VR S.K H1 I' H' σ vl v → Q v H' :=
  P.imp fun vl e' I' H' st sr R v r => R v (r.from fun a h => st1.gone h)
theorem rd_if {Q : VK} (h : rd S (sIf f fa fb) σ H Q) : tIf (rdT S f) (rd S fa) (rd S fb) σ H Q := by
  obtain ⟨O, I, env, sr, P⟩ := h
  refine ⟨O, I, env, sr, (Post.bind P).imp fun b e1 I1 H1 st1 sr1 P1 => ?_⟩
  cases b with
  | true => exact ⟨O, I1, e1, sr1, post_from (α := Unit) st1 P1⟩
  | false => exact ⟨O, I1, e1, sr1, post_from (α := Unit) st1 P1⟩
theorem rd_and {Q : VK} (h : rd S (sAn fa fb) σ H Q) : tAndV (rd S fa) (rd S fb) σ H Q := by
  obtain ⟨O, I, env, sr, P⟩ := h
  refine ⟨O, I, env, sr, (Post.bind P).imp fun x e1 I1 H1 st1 sr1 P1 vx hx => ?_⟩
  split at P1
  · rename_i b
    have hx : RD S.K I1 (.bl b) vx := hx
    simp only [RD] at hx
    refine ⟨b, hx, ?_⟩
    cases b with
    | true => exact ⟨O, I1, e1, sr1, post_from (α := Unit) st1 P1⟩
    | false => exact P1 I1 H1 Stp.refl sr1 _ (show RD S.K I1 (.bl false) _ by simp only [RD])
  · exact P1.elim
theorem rd_or {Q : VK} (h : rd S (sOr fa fb) σ H Q) : tOrV (rd S fa) (rd S fb) σ H Q := by
  obtain ⟨O, I, env, sr, P⟩ := h
  refine ⟨O, I, env, sr, (Post.bind P).imp fun x e1 I1 H1 st1 sr1 P1 vx hx => ?_⟩
  split at P1
  · rename_i b
    have hx : RD S.K I1 (.bl b) vx := hx
    simp only [RD] at hx
    refine ⟨b, hx, ?_⟩
    cases b with
    | false => exact ⟨O, I1, e1, sr1, post_from (α := Unit) st1 P1⟩
    | true => exact P1 I1 H1 Stp.refl sr1 _ (show RD S.K I1 (.bl true) _ by simp only [RD])
  · exact P1.elim
theorem rd_not {Q : VK} (h : rd S (sNo fa) σ H Q) : tNotV (rd S fa) σ H Q := by
  obtain ⟨O, I, env, sr, P⟩ := h
  refine ⟨O, I, env, sr, (Post.bind P).imp fun x e1 I1 H1 st1 sr1 P1 vx hx => ?_⟩
  split at P1
  · rename_i b
    have hx : RD S.K I1 (.bl b) vx := hx
    simp only [RD] at hx
    exact ⟨b, hx, P1 I1 H1 Stp.refl sr1 _ (show RD S.K I1 (.bl (!b)) _ by simp only [RD])⟩
  · exact P1.elim
end
end TL

set_option Elab.async false
set_option linter.all false
set_option autoImplicit false
set_option maxRecDepth 100000
set_option maxHeartbeats 4000000
namespace TL
open PySem PySem.Spec PyProof.Rows L2

theorem OpR.imp {X : Cx} {f : Value → Value → Sem Value} {r r' : R2} (h : OpR X f r) (k : ∀ x y H Q, r' x y H Q → r x y H Q) : OpR X f r' := fun pins s σ H x y v u Q I rx ry q => h pins s σ H x y v u Q I rx ry (k x y H Q q)
theorem CallR.imp {X : Cx} {f : Value} {r r' : List V → Hp → VK → Prop} (h : CallR X f r) (k : ∀ x H Q, r' x H Q → r x H Q) : CallR X f r' := fun pins s σ H x us Q I rx q => h pins s σ H x us Q I rx (k x H Q q)
theorem MtR.imp {X : Cx} {id : String} {r r' : V → List V → Hp → VK → Prop} (h : MtR X id r) (k : ∀ x xs H Q, r' x xs H Q → r x xs H Q) : MtR X id r' := fun pins s σ H x xs v us Q I rx rs q => h pins s σ H x xs v us Q I rx rs (k x xs H Q q)
theorem IxR.imp {X : Cx} {r r' : R2} (h : IxR X r) (k : ∀ x y H Q, r' x y H Q → r x y H Q) : IxR X r' := fun va sl pins s σ H x y v u Q I rx ry q hs => h va sl pins s σ H x y v u Q I rx ry (k x y H Q q) hs

/-! ### arithmetic -/
def gAdd : D → D → OR
  | .int i, .int j => .val (.int (i + j))
  | .str s, .str t => if s.length + t.length ≤ lim then .val (.str (s ++ t)) else .bad
  | .lst l, .lst m => if l.length + m.length ≤ lim then .new (l ++ m) else .bad
  | _, _ => .bad
def gSub : D → D → OR
  | .int i, .int j => .val (.int (i - j))
  | _, _ => .bad
def gMul : D → D → OR
  | .int i, .int j => if i.natAbs.log2 + j.natAbs.log2 < 1000000 then .val (.int (i * j)) else .bad
  | .str s, .int k => if -(2 ^ 63) ≤ k ∧ k < 2 ^ 63 ∧ s.length * k.toNat ≤ lim then .val (.str (List.replicate k.toNat s).flatten) else .bad
  | .lst l, .int k => if -(2 ^ 63) ≤ k ∧ k < 2 ^ 63 ∧ l.length * k.toNat ≤ lim then .new (List.replicate k.toNat l).flatten else .bad
  | _, _ => .bad
def gDiv : D → D → OR
  | .int i, .int j => if 0 < j ∧ j.natAbs.log2 < 9000 then .val (.int (i / j)) else .bad
  | _, _ => .bad
def gMod : D → D → OR
  | .int i, .int j => if 0 < j then .val (.int (i % j)) else .bad
  | _, _ => .bad
def gPow : D → D → OR
  | .int i, .int j => if 0 ≤ j ∧ (Builtin.Int.intBits i : Int) * j ≤ 2 ^ 27 then .val (.int (i ^ j.toNat)) else .bad
  | _, _ => .bad
def gNeg : D → OR
  | .int i => .val (.int (-i))
  | _ => .bad
theorem str_app (s t : List Nat) : ((⟨s.toArray⟩ : Str) ++ (⟨t.toArray⟩ : Str)) = ⟨(s ++ t).toArray⟩ := by
  show Str.append _ _ = _
  unfold Str.append
  simp
theorem str_len (s : List Nat) : (⟨s.toArray⟩ : Str).length = s.length := by
  show s.toArray.size = _
  simp
theorem fold_reps : ∀ (k : Nat) (s : List Nat) (a : List Nat), (List.replicate k s.toArray).foldl (· ++ ·) a.toArray = (a ++ (List.replicate k s).flatten).toArray
  | 0, s, a => by simp
  | k + 1, s, a => by
    rw [List.replicate_succ, List.foldl_cons, List.replicate_succ, List.flatten_cons, ← List.append_assoc, ← fold_reps k s (a ++ s)]
    congr 1
    simp
theorem txt_mul (s : List Nat) (k : Int) : Txt.mul ⟨s.toArray⟩ k = ⟨((List.replicate k.toNat s).flatten).toArray⟩ := by
  unfold Txt.mul
  by_cases h : k < 1
  · rw [if_pos h]
    have : k.toNat = 0 := by omega
    rw [this]
    rfl
  · rw [if_neg h]
    by_cases h2 : (k == 1 || (⟨s.toArray⟩ : Str).length == 0) = true
    · rw [if_pos h2]
      rw [str_len] at h2
      rcases Bool.or_eq_true _ _ ▸ h2 with h3 | h3
      · have : k = 1 := by simpa using h3
        subst this
        simp
      · have : s = [] := by
          cases s with
          | nil => rfl
          | cons a l => simp at h3
        subst this
        have : ∀ n : Nat, (List.replicate n ([] : List Nat)).flatten = [] := fun n => by simp
        rw [this]
    · rw [if_neg h2]
      have q := fold_reps k.toNat s []
      simp only [List.nil_append] at q
      rw [← q]
section
variable {X : Cx} {I H : Hp} {Q : VK}
theorem orq_val {K : Fg} {d : D} {z : V} (h : OrQ K I H Q (.val d)) (r : RD K I d z) : Q z H := h z r
theorem op_addC : OpR X (binaryOp .Add) (rC2 X.K gAdd) := OpR.imp (op_add.or (op_add_str.or op_cat)) fun x y H Q h => by
  obtain ⟨I, dx, dy, e, hx, hy, q⟩ := h
  cases dx with
  | int i => cases dy with
    | int j =>
      simp only [RC, RD] at hx hy; subst hx hy
      exact .inl ⟨i, j, rfl, rfl, orq_val q (by simp only [RD])⟩
    | _ => exact q.elim
  | str s => cases dy with
    | str t =>
      simp only [RC, RD] at hx hy; subst hx hy
      simp only [gAdd] at q
      split at q
      · rename_i c
        exact .inr (.inl ⟨_, _, rfl, rfl, by rw [str_len, str_len, lim_eq]; exact c, by rw [str_app]; exact orq_val q (by simp only [RD])⟩)
      · exact q.elim
    | _ => exact q.elim
  | lst l => cases dy with
    | lst m =>
      obtain ⟨p, vs, rfl, h1, r1⟩ := hx
      obtain ⟨p', vs', rfl, h2, r2⟩ := hy
      simp only [gAdd] at q
      split at q
      · rename_i c
        exact .inr (.inr ⟨p, p', vs, vs', rfl, rfl, h1, h2, by rw [r1.len, r2.len, lim_eq]; exact c, fun z hz => q z _ hz (r1.app r2)⟩)
      · exact q.elim
    | _ => exact q.elim
  | _ => exact q.elim
theorem op_subC : OpR X (binaryOp .Sub) (rC2 X.K gSub) := OpR.imp op_sub fun x y H Q h => by
  obtain ⟨I, dx, dy, e, hx, hy, q⟩ := h
  cases dx with
  | int i => cases dy with
    | int j =>
      simp only [RC, RD] at hx hy; subst hx hy
      exact ⟨i, j, rfl, rfl, orq_val q (by simp only [RD])⟩
    | _ => exact q.elim
  | _ => exact q.elim
theorem RDs.rep {K : Fg} {l : List D} {vs : List V} (h : RDs K I l vs) : ∀ k : Nat, RDs K I (List.replicate k l).flatten (List.replicate k vs).flatten
  | 0 => by simp only [List.replicate_zero, List.flatten_nil]; exact RDs.nil
  | k + 1 => by
    rw [List.replicate_succ, List.replicate_succ, List.flatten_cons, List.flatten_cons]
    exact h.app (RDs.rep h k)
theorem op_mulStr : OpR X (binaryOp .Mult) (fun x y H Q => ∃ (s : List Nat) (k : Int), x = .str ⟨s.toArray⟩ ∧ y = .int k ∧ -(2 ^ 63) ≤ k ∧ k < 2 ^ 63 ∧ s.length * k.toNat ≤ lim ∧ Q (.str ⟨((List.replicate k.toNat s).flatten).toArray⟩) H) := by
  intro pins s σ H x y v u Q I rx ry h
  obtain ⟨z, k, rfl, rfl, h1, h2, h3, q⟩ := h
  obtain ⟨t, rfl⟩ := rx
  obtain ⟨t', rfl⟩ := ry
  have hl : (lim : Nat) = 16777216 := rfl
  refine SB.mul ⟨?_, fun h4 h5 => ?_, fun h4 h5 => ?_⟩ fun t2 k2 => ⟨.str _, H, I.tok k2, ⟨t2, by rw [txt_mul]⟩, q⟩
  · rw [decide_eq_false (show ¬ k < -(2 ^ 63 : Int) by omega), decide_eq_false (show ¬ k ≥ 2 ^ 63 by omega)]; rfl
  · rw [str_len]
    intro h6
    have h7 : 0 < k := by omega
    have h8 : (2 ^ 63 - 1 : Int) / k + 1 ≤ z.length := by omega
    have h9 : (2 ^ 63 - 1 : Int) < ((2 ^ 63 - 1 : Int) / k + 1) * k := Int.lt_ediv_add_one_mul_self _ h7
    have h10 : ((2 ^ 63 - 1 : Int) / k + 1) * k ≤ (z.length : Int) * k := Int.mul_le_mul_of_nonneg_right h8 (by omega)
    have h11 : (z.length : Int) * k = ((z.length * k.toNat : Nat) : Int) := by
      rw [Int.natCast_mul, Int.toNat_of_nonneg (by omega)]
    omega
  · rw [str_len]
    unfold Builtin.Str.tooLong
    have h8 := lim_eq
    exact decide_eq_false (by omega)
theorem op_mulC : OpR X (binaryOp .Mult) (rC2 X.K gMul) := OpR.imp (op_mulW.or (op_mulStr.or op_rep)) fun x y H Q h => by
  obtain ⟨I, dx, dy, e, hx, hy, q⟩ := h
  cases dx with
  | int i => cases dy with
    | int j =>
      simp only [RC, RD] at hx hy; subst hx hy
      simp only [gMul] at q
      split at q
      · rename_i c
        exact .inl ⟨i, j, rfl, rfl, c, orq_val q (by simp only [RD])⟩
      · exact q.elim
    | _ => exact q.elim
  | str s => cases dy with
    | int k =>
      simp only [RC, RD] at hx hy; subst hx hy
      simp only [gMul] at q
      split at q
      · rename_i c
        exact .inr (.inl ⟨s, k, rfl, rfl, c.1, c.2.1, c.2.2, orq_val q (by simp only [RD])⟩)
      · exact q.elim
    | _ => exact q.elim
  | lst l => cases dy with
    | int k =>
      obtain ⟨p, vs, rfl, h1, r1⟩ := hx
      simp only [RC, RD] at hy; subst hy
      simp only [gMul] at q
      split at q
      · rename_i c
        exact .inr (.inr ⟨p, k, vs, rfl, rfl, h1, c.1, c.2.1, by rw [r1.len, lim_eq]; exact c.2.2, fun z hz => q z _ hz (r1.rep _)⟩)
      · exact q.elim
    | _ => exact q.elim
  | _ => exact q.elim
theorem op_divC : OpR X (binaryOp .FloorDiv) (rC2 X.K gDiv) := OpR.imp op_fdivW fun x y H Q h => by
  obtain ⟨I, dx, dy, e, hx, hy, q⟩ := h
  cases dx with
  | int i => cases dy with
    | int j =>
      simp only [RC, RD] at hx hy; subst hx hy
      simp only [gDiv] at q
      split at q
      · rename_i c
        exact ⟨i, j, rfl, rfl, c, orq_val q (by simp only [RD])⟩
      · exact q.elim
    | _ => exact q.elim
  | _ => exact q.elim
theorem op_modC : OpR X (binaryOp .Mod) (rC2 X.K gMod) := OpR.imp op_mod fun x y H Q h => by
  obtain ⟨I, dx, dy, e, hx, hy, q⟩ := h
  cases dx with
  | int i => cases dy with
    | int j =>
      simp only [RC, RD] at hx hy; subst hx hy
      simp only [gMod] at q
      split at q
      · rename_i c
        exact ⟨i, j, rfl, rfl, c, orq_val q (by simp only [RD])⟩
      · exact q.elim
    | _ => exact q.elim
  | _ => exact q.elim
theorem op_powC : OpR X (binaryOp .Pow) (rC2 X.K gPow) := by
  refine OpR.imp (r := rI (fun i j => 0 ≤ j ∧ (Builtin.Int.intBits i : Int) * j ≤ 2 ^ 27) fun i j => .int (i ^ j.toNat)) (opI fun _ _ _ _ _ _ _ hc q => pow_int hc.1 hc.2 q) fun x y H Q h => ?_
  obtain ⟨I, dx, dy, e, hx, hy, q⟩ := h
  cases dx with
  | int i => cases dy with
    | int j =>
      simp only [RC, RD] at hx hy; subst hx hy
      simp only [gPow] at q
      split at q
      · rename_i c
        exact ⟨i, j, rfl, rfl, c, orq_val q (by simp only [RD])⟩
      · exact q.elim
    | _ => exact q.elim
  | _ => exact q.elim
theorem UnR.imp {f : Value → Sem Value} {r r' : V → Hp → VK → Prop} (h : UnR X f r) (k : ∀ x H Q, r' x H Q → r x H Q) : UnR X f r' := fun pins s σ H x v Q I rx q => h pins s σ H x v Q I rx (k x H Q q)
theorem un_negC : UnR X (unaryOp .USub) (rC1 X.K gNeg) := UnR.imp un_neg fun x H Q h => by
  obtain ⟨I, dx, e, hx, q⟩ := h
  cases dx with
  | int i =>
    simp only [RC, RD] at hx; subst hx
    exact ⟨i, rfl, orq_val q (by simp only [RD])⟩
  | _ => exact q.elim

/-! ### comparisons -/
def gEq : D → D → OR := fun x y => if pur x = true ∧ pur y = true ∧ min (dep x) (dep y) ≤ 60 then .val (.bl (eqv x y)) else .bad
def gNe : D → D → OR := fun x y => if pur x = true ∧ pur y = true ∧ min (dep x) (dep y) ≤ 60 then .val (.bl (!eqv x y)) else .bad
theorem op_eqR (g : Gd X) : OpR X (compareOp .Eq) (rR2 X.K gEq) := by
  intro pins s σ H x y v u Q I rx ry h
  obtain ⟨J, dx, dy, e, hx, hy, q⟩ := h
  simp only [gEq] at q
  split at q
  · rename_i c
    obtain ⟨as, ra⟩ := RD.reads I hx rx
    obtain ⟨bs, rb⟩ := RD.reads I hy ry
    have hu := g.hu
    refine PySem.SeqAt.eq_plain ra rb (plain_toPy dx) (plain_toPy dy) (by rw [dep_toPy, dep_toPy]; omega) ⟨.bl (eqv dx dy), H, I, ?_, orq_val q (by simp only [RD])⟩
    show Value.bool _ = Value.bool _
    rw [eqv_toPy dx dy c.1 c.2.1]
  · exact q.elim
theorem op_neR (g : Gd X) : OpR X (compareOp .NotEq) (rR2 X.K gNe) := by
  intro pins s σ H x y v u Q I rx ry h
  obtain ⟨J, dx, dy, e, hx, hy, q⟩ := h
  simp only [gNe] at q
  split at q
  · rename_i c
    obtain ⟨as, ra⟩ := RD.reads I hx rx
    obtain ⟨bs, rb⟩ := RD.reads I hy ry
    have hu := g.hu
    refine PySem.SeqAt.ne_plain ra rb (plain_toPy dx) (plain_toPy dy) (by rw [dep_toPy, dep_toPy]; omega) ⟨.bl (!eqv dx dy), H, I, ?_, orq_val q (by simp only [RD])⟩
    show Value.bool _ = Value.bool _
    rw [eqv_toPy dx dy c.1 c.2.1]
  · exact q.elim
def gLt : D → D → OR
  | .int i, .int j => .val (.bl (decide (i < j)))
  | .str s, .str t => .val (.bl (decide (s < t)))
  | _, _ => .bad
def gLe : D → D → OR
  | .int i, .int j => .val (.bl (decide (i ≤ j)))
  | .str s, .str t => .val (.bl (!decide (t < s)))
  | _, _ => .bad
def gGt : D → D → OR
  | .int i, .int j => .val (.bl (decide (j < i)))
  | .str s, .str t => .val (.bl (decide (t < s)))
  | _, _ => .bad
def gGe : D → D → OR
  | .int i, .int j => .val (.bl (decide (j ≤ i)))
  | .str s, .str t => .val (.bl (!decide (s < t)))
  | _, _ => .bad
theorem op_ltC : OpR X (compareOp .Lt) (rC2 X.K gLt) := OpR.imp (op_lt.or op_lt_str) fun x y H Q h => by
  obtain ⟨I, dx, dy, e, hx, hy, q⟩ := h
  cases dx with
  | int i => cases dy with
    | int j => simp only [RC, RD] at hx hy; subst hx hy; exact .inl ⟨i, j, rfl, rfl, orq_val q (by simp only [RD])⟩
    | _ => exact q.elim
  | str s => cases dy with
    | str t => simp only [RC, RD] at hx hy; subst hx hy; exact .inr ⟨_, _, rfl, rfl, orq_val q (by simp only [RD])⟩
    | _ => exact q.elim
  | _ => exact q.elim
theorem op_gtC : OpR X (compareOp .Gt) (rC2 X.K gGt) := OpR.imp (op_gt.or op_gt_str) fun x y H Q h => by
  obtain ⟨I, dx, dy, e, hx, hy, q⟩ := h
  cases dx with
  | int i => cases dy with
    | int j => simp only [RC, RD] at hx hy; subst hx hy; exact .inl ⟨i, j, rfl, rfl, orq_val q (by simp only [RD])⟩
    | _ => exact q.elim
  | str s => cases dy with
    | str t => simp only [RC, RD] at hx hy; subst hx hy; exact .inr ⟨_, _, rfl, rfl, orq_val q (by simp only [RD])⟩
    | _ => exact q.elim
  | _ => exact q.elim

theorem op_leC : OpR X (compareOp .LtE) (rC2 X.K gLe) := OpR.imp (op_le.or op_le_str) fun x y H Q h => by
  obtain ⟨I, dx, dy, e, hx, hy, q⟩ := h
  cases dx with
  | int i => cases dy with
    | int j => simp only [RC, RD] at hx hy; subst hx hy; exact .inl ⟨i, j, rfl, rfl, orq_val q (by simp only [RD])⟩
    | _ => exact q.elim
  | str s => cases dy with
    | str t => simp only [RC, RD] at hx hy; subst hx hy; exact .inr ⟨_, _, rfl, rfl, orq_val q (by simp only [RD])⟩
    | _ => exact q.elim
  | _ => exact q.elim
theorem op_geC : OpR X (compareOp .GtE) (rC2 X.K gGe) := OpR.imp (op_ge.or op_ge_str) fun x y H Q h => by
  obtain ⟨I, dx, dy, e, hx, hy, q⟩ := h
  cases dx with
  | int i => cases dy with
    | int j => simp only [RC, RD] at hx hy; subst hx hy; exact .inl ⟨i, j, rfl, rfl, orq_val q (by simp only [RD])⟩
    | _ => exact q.elim
  | str s => cases dy with
    | str t => simp only [RC, RD] at hx hy; subst hx hy; exact .inr ⟨_, _, rfl, rfl, orq_val q (by simp only [RD])⟩
    | _ => exact q.elim
  | _ => exact q.elim
def isNone : D → Bool
  | .non => true
  | _ => false
/-- is None, is True, is False -/
def isBl (b : Bool) : D → Bool
  | .bl a => a == b
  | _ => false
def gIs : D → D → OR
  | x, .non => .val (.bl (isNone x))
  | x, .bl b => .val (.bl (isBl b x))
  | _, _ => .bad
def gIsNot : D → D → OR
  | x, .non => .val (.bl (!isNone x))
  | .bl a, .bl b => .val (.bl (!(a == b)))
  | _, _ => .bad
theorem op_isBD : OpR X (compareOp .Is) (fun x y H Q => ∃ d b, RD X.K H d x ∧ y = .bl b ∧ Q (.bl (isBl b d)) H) := by
  intro pins s σ H x y v u Q I rx ry h
  obtain ⟨d, b, rd, rfl, q⟩ := h
  cases (show u = Value.bool b from ry)
  have other : (∀ c, v ≠ .bool c) → PySem.plainIs v (.bool b) = true → isBl b d = false → wpAny (model X.prog X.w) X.A (compareOp .Is v (.bool b)) (EP X pins σ Q) X.xe s := fun h1 h2 h3 => by
    rw [h3] at q
    exact wpAny_is_other h2 (h1 b) ⟨.bl false, H, I, rfl, q⟩
  cases d with
  | bl a =>
    simp only [RD] at rd; subst rd
    cases (show v = Value.bool a from rx)
    by_cases e : a = b
    · subst e
      exact wpAny_is_self rfl ⟨.bl true, H, I, rfl, by simpa [isBl] using q⟩
    · have z : isBl b (.bl a) = false := beq_eq_false_iff_ne.mpr e
      rw [z] at q
      exact wpAny_is_other rfl (fun z => e (Value.bool.inj z)) ⟨.bl false, H, I, rfl, q⟩
  | non => simp only [RD] at rd; subst rd; cases rx; exact other (fun c z => by cases z) rfl rfl
  | int i => simp only [RD] at rd; subst rd; obtain ⟨t, rfl⟩ := rx; exact other (fun c z => by cases z) rfl rfl
  | str i => simp only [RD] at rd; subst rd; obtain ⟨t, rfl⟩ := rx; exact other (fun c z => by cases z) rfl rfl
  | lst l => simp only [RD] at rd; obtain ⟨p, vs, rfl, _, _⟩ := rd; cases rx; exact other (fun c z => by cases z) rfl rfl
  | tup l => simp only [RD] at rd; obtain ⟨p, vs, rfl, _, _⟩ := rd; cases rx; exact other (fun c z => by cases z) rfl rfl
  | scr l => simp only [RD] at rd; obtain ⟨p, rfl, _⟩ := rd; cases rx; exact other (fun c z => by cases z) rfl rfl
theorem isNon {K : Fg} {d : D} {v : V} (r : RD K H d v) : decide (v = .non) = isNone d := by
  cases d with
  | non => simp only [RD] at r; subst r; rfl
  | bl b => simp only [RD] at r; subst r; rfl
  | int i => simp only [RD] at r; subst r; rfl
  | str s => simp only [RD] at r; subst r; rfl
  | lst l => simp only [RD] at r; obtain ⟨p, vs, rfl, _⟩ := r; rfl
  | tup l => simp only [RD] at r; obtain ⟨p, vs, rfl, _⟩ := r; rfl
  | scr l => simp only [RD] at r; obtain ⟨p, rfl, _⟩ := r; rfl
theorem op_isR : OpR X (compareOp .Is) (rR2 X.K gIs) := OpR.imp (op_isN.or op_isBD) fun x y H Q h => by
  obtain ⟨I, dx, dy, e, hx, hy, q⟩ := h
  cases dy with
  | non =>
    simp only [RD] at hy; subst hy
    refine .inl ⟨rfl, ?_⟩
    rw [isNon hx]
    exact orq_val q (by simp only [RD])
  | bl b =>
    simp only [RD] at hy; subst hy
    exact .inr ⟨dx, b, hx, rfl, orq_val q (by simp only [RD])⟩
  | _ => cases dx <;> exact q.elim
theorem op_isNotR : OpR X (compareOp .IsNot) (rR2 X.K gIsNot) := OpR.imp (op_notN.or op_notBl) fun x y H Q h => by
  obtain ⟨I, dx, dy, e, hx, hy, q⟩ := h
  cases dy with
  | non =>
    simp only [RD] at hy; subst hy
    refine .inl ⟨rfl, ?_⟩
    rw [isNon hx]
    exact orq_val q (by simp only [RD])
  | bl b => cases dx with
    | bl a =>
      simp only [RD] at hx hy; subst hx hy
      refine .inr ⟨a, b, rfl, rfl, ?_⟩
      rw [← Bool.beq_eq_decide_eq]
      exact orq_val q (by simp only [RD])
    | _ => exact q.elim
  | _ => cases dx <;> exact q.elim

/-! ### in -/
/-- does the word y stand in x at a place -/
def hasAt (y : List Nat) : List Nat → Bool
  | [] => y.isEmpty
  | a :: r => y.isPrefixOf (a :: r) || hasAt y r
def inB (x : D) : D → Option Bool
  | .str s => match x with
    | .str [c] => some (decide (c ∈ s))
    | _ => none
  | .lst l => if pur x = true ∧ purs l = true ∧ min (deps l) (dep x) ≤ 60 then some (l.any fun y => eqv y x) else none
  | .tup l => if pur x = true ∧ purs l = true ∧ min (deps l) (dep x) ≤ 60 then some (l.any fun y => eqv y x) else none
  | _ => none
def gIn (x y : D) : OR := match inB x y with | some b => .val (.bl b) | none => .bad
def gNotIn (x y : D) : OR := match inB x y with | some b => .val (.bl (!b)) | none => .bad
theorem anyPy : ∀ (l : List D) (x : D), pur x = true → purs l = true → ((toPys l).any fun y => PyData.eqv y (toPy x)) = l.any fun y => eqv y x
  | [], _, _, _ => rfl
  | d :: l, x, hx, hl => by
    simp only [purs, Bool.and_eq_true] at hl
    simp only [toPys, List.any_cons]
    rw [anyPy l x hx hl.2, eqv_toPy d x hl.1 hx]
theorem readsL {h : Heap} {u : Value} {l : List D} {as : List Addr} (r : Reads h u (toPy (.lst l)) as) : Reads h u (.list (toPys l)) as := by simpa only [toPy] using r
theorem readsT {h : Heap} {u : Value} {l : List D} {as : List Addr} (r : Reads h u (toPy (.tup l)) as) : Reads h u (.tuple (toPys l)) as := by simpa only [toPy] using r
theorem op_inR (g : Gd X) : OpR X (compareOp .In) (rR2 X.K gIn) := by
  intro pins s σ H x y v u Q I rx ry h
  obtain ⟨J, dx, dy, e, hx, hy, q⟩ := h
  have hu := g.hu
  simp only [gIn] at q
  cases dy with
  | str t =>
    cases dx with
    | str z =>
      match z, hx, q with
      | [], _, q => exact q.elim
      | _ :: _ :: _, _, q => exact q.elim
      | [c], hx, q =>
        simp only [RD] at hx hy; subst hx hy
        refine op_in_sign pins s σ H _ _ v u Q I rx ry ⟨c, _, rfl, rfl, ?_⟩
        exact orq_val q (by simp only [RD])
    | _ => exact q.elim
  | lst l =>
    simp only [inB] at q
    by_cases c : pur dx = true ∧ purs l = true ∧ min (deps l) (dep dx) ≤ 60
    · rw [if_pos c] at q
      obtain ⟨as, ra⟩ := RD.reads I hx rx
      obtain ⟨bs, rb⟩ := RD.reads I hy ry
      refine PySem.SeqAt.in_list_data (readsL rb) ra (plain_toPys l) (plain_toPy dx) (by rw [dep_toPy, deps_toPys]; omega) ⟨.bl (l.any fun y => eqv y dx), H, I, ?_, orq_val q (by simp only [RD])⟩
      show Value.bool _ = Value.bool _
      rw [anyPy l dx c.1 c.2.1]
    · rw [if_neg c] at q; exact q.elim
  | tup l =>
    simp only [inB] at q
    by_cases c : pur dx = true ∧ purs l = true ∧ min (deps l) (dep dx) ≤ 60
    · rw [if_pos c] at q
      obtain ⟨as, ra⟩ := RD.reads I hx rx
      obtain ⟨bs, rb⟩ := RD.reads I hy ry
      refine PySem.SeqAt.in_tuple_data (readsT rb) ra (plain_toPys l) (plain_toPy dx) (by rw [dep_toPy, deps_toPys]; omega) ⟨.bl (l.any fun y => eqv y dx), H, I, ?_, orq_val q (by simp only [RD])⟩
      show Value.bool _ = Value.bool _
      rw [anyPy l dx c.1 c.2.1]
    · rw [if_neg c] at q; exact q.elim
  | _ => exact q.elim
theorem op_notInR (g : Gd X) : OpR X (compareOp .NotIn) (rR2 X.K gNotIn) := by
  intro pins s σ H x y v u Q I rx ry h
  obtain ⟨J, dx, dy, e, hx, hy, q⟩ := h
  have hu := g.hu
  simp only [gNotIn] at q
  cases dy with
  | str t =>
    cases dx with
    | str z =>
      match z, hx, q with
      | [], _, q => exact q.elim
      | _ :: _ :: _, _, q => exact q.elim
      | [c], hx, q =>
        simp only [RD] at hx hy; subst hx hy
        refine op_notIn_sign pins s σ H _ _ v u Q I rx ry ⟨c, _, rfl, rfl, ?_⟩
        exact orq_val q (by simp only [RD])
    | _ => exact q.elim
  | lst l =>
    simp only [inB] at q
    by_cases c : pur dx = true ∧ purs l = true ∧ min (deps l) (dep dx) ≤ 60
    · rw [if_pos c] at q
      obtain ⟨as, ra⟩ := RD.reads I hx rx
      obtain ⟨bs, rb⟩ := RD.reads I hy ry
      refine PySem.SeqAt.notIn_list_data (readsL rb) ra (plain_toPys l) (plain_toPy dx) (by rw [dep_toPy, deps_toPys]; omega) ⟨.bl (!l.any fun y => eqv y dx), H, I, ?_, orq_val q (by simp only [RD])⟩
      show Value.bool _ = Value.bool _
      rw [anyPy l dx c.1 c.2.1]
    · rw [if_neg c] at q; exact q.elim
  | tup l =>
    simp only [inB] at q
    by_cases c : pur dx = true ∧ purs l = true ∧ min (deps l) (dep dx) ≤ 60
    · rw [if_pos c] at q
      obtain ⟨as, ra⟩ := RD.reads I hx rx
      obtain ⟨bs, rb⟩ := RD.reads I hy ry
      refine PySem.SeqAt.notIn_tuple_data (readsT rb) ra (plain_toPys l) (plain_toPy dx) (by rw [dep_toPy, deps_toPys]; omega) ⟨.bl (!l.any fun y => eqv y dx), H, I, ?_, orq_val q (by simp only [RD])⟩
      show Value.bool _ = Value.bool _
      rw [anyPy l dx c.1 c.2.1]
    · rw [if_neg c] at q; exact q.elim
  | _ => exact q.elim

/-! ### subscripts -/
def gIx : D → D → OR
  | .lst l, .int i => match atI l i with | some d => .val d | none => .bad
  | .tup l, .int i => match atI l i with | some d => .val d | none => .bad
  | .scr ns, .int i => match atI ns i with | some n => .val (.int n) | none => .bad
  | .str s, .int i => if s.length ≤ lim then (match atI s i with | some c => .val (.str [c]) | none => .bad) else .bad
  | _, _ => .bad
theorem RDs.atI' {K : Fg} {I : Hp} {l : List D} {vs : List V} {i : Int} {d : D} (h : RDs K I l vs) (e : atI l i = some d) : ∃ v, atI vs i = some v ∧ RD K I d v := by
  unfold atI at e ⊢
  rw [h.len]
  cases q : ixN l.length i with
  | none => rw [q] at e; cases e
  | some j =>
    rw [q] at e
    obtain ⟨v, a, b⟩ := h.get' e
    exact ⟨v, a, b⟩
theorem ix_C : IxR X (rC2 X.K gIx) := IxR.imp ix_seq fun x y H Q h => by
  obtain ⟨I, dx, dy, e, hx, hy, q⟩ := h
  cases dy with
  | int i =>
    simp only [RC, RD] at hy; subst hy
    cases dx with
    | lst l =>
      obtain ⟨p, vs, rfl, h1, r1⟩ := hx
      simp only [gIx] at q
      split at q
      · rename_i d c
        obtain ⟨v, a, b⟩ := r1.atI' c
        exact .inl ⟨p, vs, i, v, rfl, rfl, SqL.of h1, a, orq_val q b⟩
      · exact q.elim
    | tup l =>
      simp only [RC, RD] at hx
      obtain ⟨p, vs, rfl, h1, r1⟩ := hx
      simp only [gIx] at q
      split at q
      · rename_i d c
        obtain ⟨v, a, b⟩ := r1.atI' c
        exact .inr (.inl ⟨p, vs, i, v, rfl, rfl, SqT.of (e _ _ h1), a, orq_val q b⟩)
      · exact q.elim
    | scr ns =>
      simp only [RC, RD] at hx
      obtain ⟨p, rfl, h1⟩ := hx
      simp only [gIx] at q
      split at q
      · rename_i n c
        refine .inl ⟨p, _, i, .int n, rfl, rfl, e.sqL h1, ?_, orq_val q (by simp only [RD])⟩
        unfold atI at c ⊢
        rw [List.length_map]
        cases z : ixN ns.length i with
        | none => rw [z] at c; cases c
        | some j => rw [z] at c; simp only [Option.bind_some] at c ⊢; rw [List.getElem?_map, c]; rfl
      · exact q.elim
    | str s =>
      simp only [RC, RD] at hx; subst hx
      simp only [gIx] at q
      split at q
      · rename_i c1
        split at q
        · rename_i c c2
          exact .inr (.inr ⟨_, i, c, rfl, rfl, by rw [str_len, lim_eq]; exact c1, by simpa using c2, orq_val q (by simp only [RD])⟩)
        · exact q.elim
      · exact q.elim
    | _ => exact q.elim
  | _ => cases dx <;> exact q.elim
end
end TL

set_option Elab.async false
set_option linter.all false
set_option autoImplicit false
set_option maxRecDepth 100000
set_option maxHeartbeats 4000000
namespace TL
open PySem PySem.Spec PyProof.Rows L2

/-! ### displays: the items are told from then on -/
/-- a value made a tree: a new list is told -/
def frz : Val → Env → Out D
  | .imm d, e => .ok d e
  | .cell l, e => .ok (.lst l) e
  | _, _ => .bad
abbrev SD := Env → Out (List D)
def dNil : SD := fun e => .ok [] e
def dCons (fa : SF) (fr : SD) : SD := fun e => (fa e).bind fun x e1 => (frz x e1).bind fun d e2 => (fr e2).bind fun l e3 => .ok (d :: l) e3
def sLst (fr : SD) : SF := fun e => (fr e).bind fun l e1 => if l.length ≤ lim then .ok (.cell l) e1 else .bad
def sTup (fr : SD) : SF := fun e => (fr e).bind fun l e1 => if l.length ≤ lim then .ok (.imm (.tup l)) e1 else .bad
def rdD (S : Srd) (f : SD) : TA := fun σ H Q => ∃ O I env, SR S.K O I H σ env ∧
  Post S O I H σ env (f env) fun l _ I' H' => ∀ vs, RDs S.K I' l vs → Q vs H'
theorem Post.bind' {α β : Type} {S : Srd} {O : Addr → Prop} {I H : Hp} {σ : L2.St} {env : Env} {o : Out α} {k : α → Env → Out β} {R : β → Env → Hp → Hp → Prop} (h : Post S O I H σ env (o.bind k) R) :
    Post S O I H σ env o fun a env' I' H' => ∀ J, Stp O I H J H' → SR S.K O J H' σ env' → Post S O J H' σ env' (k a env') R := by
  cases o with
  | bad => exact h
  | ex c d e => exact h
  | ok a e =>
    intro I1 H1 _ _ J st sr
    have h : Post S O I H σ env (k a e) R := h
    cases q : k a e with
    | bad => rw [q] at h; exact h
    | ex c d e' => rw [q] at h; exact PExc.step h st
    | ok b e' =>
      rw [q] at h
      exact fun I2 H2 st2 sr2 => h I2 H2 (st.tr st2) sr2
section
variable {S : Srd} {O : Addr → Prop} {I H Hs : Hp} {σ : L2.St} {env : Env} {fr : SA} {Q : VK}
theorem frz_env {x : Val} {e e' : Env} {d : D} (h : frz x e = .ok d e') : e' = e := by
  cases x <;> first | (cases h; rfl) | cases h
/-- the new list of a value is told -/
theorem frz_ok {J : Hp} {x : Val} {v : V} {d : D} (sr : SR S.K O I H σ env) (so : ∀ a, O a → Hs a ≠ none) (st : Stp O J Hs I H) (hx : VR S.K Hs I H σ x v) (e : frz x env = .ok d env) :
    ∃ I', Stp O J Hs I' H ∧ SR S.K O I' H σ env ∧ RD S.K I' d v ∧ Le I I' ∧ (∀ a, Hs a ≠ none → I' a = I a) := by
  cases x with
  | imm d' => cases e; exact ⟨I, st, sr, hx, Le.rfl', fun _ _ => rfl⟩
  | cell l =>
    cases e
    obtain ⟨p, vs, rfl, b, c, h, r⟩ := hx
    refine ⟨upd I p (.lst vs), Stp.froze b c st, sr.froze (fun z => so p z b) c h, ?_, Le.new c, fun a ha => upd_ne fun z => ha (by rw [z]; exact b)⟩
    simp only [RD]
    exact ⟨p, vs, rfl, upd_same, RDs.mono (Le.new c) r⟩
  | deep t => cases e
  | view i => cases e

theorem rdD_nil {Q : List V → Hp → Prop} (h : rdD S dNil σ H Q) : tNil σ H Q := by
  obtain ⟨O, I, env, sr, P⟩ := h
  exact P I H Stp.refl sr [] RDs.nil
theorem rdD_cons {fa : SF} {fr : SD} {Q : List V → Hp → Prop} (h : rdD S (dCons fa fr) σ H Q) : tCons (rd S fa) (rdD S fr) σ H Q := by
  obtain ⟨O, I, env, sr, P⟩ := h
  refine ⟨O, I, env, sr, (Post.bind' P).imp fun x e1 I1 H1 st1 sr1 P1 vx hx => ?_⟩
  cases q : frz x e1 with
  | bad =>
    have P1 := P1 I1 st1 sr1
    rw [q] at P1; exact P1.elim
  | ex c d e => cases x <;> cases q
  | ok d e2 =>
    obtain rfl := frz_env q
    obtain ⟨J, st, sr2, hd, le, _⟩ := frz_ok sr1 sr.oh st1 hx q
    have P1 := P1 J st sr2
    rw [q, Out.bind_ok] at P1
    refine ⟨O, J, e2, sr2, (Post.bind P1).imp fun l e3 I3 H3 st3 sr3 P3 vs hvs => ?_⟩
    exact P3 I3 H3 Stp.refl sr3 _ (RDs.cons (RD.mono st3.ii hd) hvs)
theorem rd_lst {fr : SD} (h : rd S (sLst fr) σ H Q) : tLst (rdD S fr) σ H Q := by
  obtain ⟨O, I, env, sr, P⟩ := h
  refine ⟨O, I, env, sr, (Post.bind P).imp fun l e1 I1 H1 st1 sr1 P1 vs hvs => ?_⟩
  split at P1
  · rename_i c
    refine ⟨by rw [hvs.len, lim_eq]; exact c, fun p hp => ?_⟩
    exact P1 I1 (upd H1 p (.lst vs)) (Stp.newH hp) (sr1.newH hp) (.ref p) ⟨p, vs, rfl, st1.gone hp, none_of_le sr1.ext hp, upd_same, hvs⟩
  · exact P1.elim
theorem rd_tup {fr : SD} (h : rd S (sTup fr) σ H Q) : tTup (rdD S fr) σ H Q := by
  obtain ⟨O, I, env, sr, P⟩ := h
  refine ⟨O, I, env, sr, (Post.bind P).imp fun l e1 I1 H1 st1 sr1 P1 vs hvs => ?_⟩
  split at P1
  · rename_i c
    refine ⟨by rw [hvs.len, lim_eq]; exact c, fun p hp => ?_⟩
    refine P1 (upd I1 p (.tup vs)) (upd H1 p (.tup vs)) (Stp.newI sr1.ext hp) (sr1.newI hp) (.ref p) ?_
    show RD S.K _ (.tup l) _
    simp only [RD]
    exact ⟨p, vs, rfl, upd_same, RDs.mono (Le.new (none_of_le sr1.ext hp)) hvs⟩
  · exact P1.elim

/-! ### slices -/
abbrev SO := Env → Out (Option Int)
def oNone : SO := fun e => .ok none e
def oSome (fa : SF) : SO := fun e => (fa e).bind fun x e1 => match x with | .imm (.int i) => .ok (some i) e1 | _ => .bad
def cut {α : Type} (xs : List α) (lo hi : Option Int) : List α := (xs.drop (HT.sIx xs.length 0 lo)).take (HT.sIx xs.length xs.length hi - HT.sIx xs.length 0 lo)
def gSl (x : D) (lo hi : Option Int) : OR := match x with
  | .lst l => .new (cut l lo hi)
  | .scr ns => .new ((cut ns lo hi).map .int)
  | .str s => if s.length ≤ lim then .val (.str (cut s lo hi)) else .bad
  | .tup l => if HT.sIx l.length 0 lo = 0 ∧ HT.sIx l.length l.length hi = l.length then .val (.tup l) else .newt (cut l lo hi)
  | _ => .bad
def sSl (fa : SF) (fl fh : SO) : SF := fun e => (fa e).bind fun x e1 => (fl e1).bind fun lo e2 => (fh e2).bind fun hi e3 => match getc e3 x with | some d => orV (gSl d lo hi) e3 | none => .bad
def rdO (S : Srd) (f : SO) : TO := fun σ H Q => ∃ O I env, SR S.K O I H σ env ∧ Post S O I H σ env (f env) fun o _ _ H' => Q o H'
def rCsl (K : Fg) : V → Option Int → Option Int → Hp → VK → Prop := fun x lo hi H Q => ∃ I dx, Le I H ∧ RC K I H dx x ∧ OrQ K I H Q (gSl dx lo hi)
theorem rdO_none {Q : Option Int → Hp → Prop} (h : rdO S oNone σ H Q) : tNoPart σ H Q := by
  obtain ⟨O, I, env, sr, P⟩ := h
  exact P I H Stp.refl sr
theorem rdO_some {fa : SF} {Q : Option Int → Hp → Prop} (h : rdO S (oSome fa) σ H Q) : tPart (rd S fa) σ H Q := by
  obtain ⟨O, I, env, sr, P⟩ := h
  refine ⟨O, I, env, sr, (Post.bind P).imp fun x e1 I1 H1 st1 sr1 P1 vx hx => ?_⟩
  split at P1
  · rename_i i
    have hx : RD S.K I1 (.int i) vx := hx
    simp only [RD] at hx
    exact ⟨i, hx, P1 I1 H1 Stp.refl sr1⟩
  · exact P1.elim
theorem rd_sl {fa : SF} {fl fh : SO} {r : V → Option Int → Option Int → Hp → VK → Prop} (hr : ∀ x lo hi H Q, rCsl S.K x lo hi H Q → r x lo hi H Q) (h : rd S (sSl fa fl fh) σ H Q) : tSl r (rd S fa) (rdO S fl) (rdO S fh) σ H Q := by
  obtain ⟨O, I, env, sr, P⟩ := h
  refine ⟨O, I, env, sr, (Post.bind P).imp fun x e1 I1 H1 st1 sr1 P1 vx hx => ⟨O, I1, e1, sr1, (Post.bind P1).imp fun lo e2 I2 H2 st2 sr2 P2 => ⟨O, I2, e2, sr2, (Post.bind P2).imp fun hi e3 I3 H3 st3 sr3 P3 => ?_⟩⟩⟩
  have hx2 := hx.step sr.oh (st2.tr st3)
  cases q : getc e3 x with
  | none => rw [q] at P3; exact P3.elim
  | some d =>
    rw [q] at P3
    exact hr _ _ _ _ _ ⟨I3, d, sr3.ext, hx2.rc sr3 q, orQ_of sr3 (fun a h => ((st1.tr st2).tr st3).gone h) P3⟩
theorem SlR.imp {X : Cx} {r r' : V → Option Int → Option Int → Hp → VK → Prop} (h : SlR X r) (k : ∀ x lo hi H Q, r' x lo hi H Q → r x lo hi H Q) : SlR X r' := fun pins s σ H x v vl vu lo hi sl Q I rx hs pl pu q => h pins s σ H x v vl vu lo hi sl Q I rx hs pl pu (k x lo hi H Q q)
theorem RDs.cut {K : Fg} {I : Hp} {l : List D} {vs : List V} (h : RDs K I l vs) (lo hi : Option Int) : RDs K I (cut l lo hi) (cutV vs lo hi) := by
  unfold TL.cut cutV
  rw [h.len]
  exact RDs.take _ (RDs.drop _ h)
theorem cut_map {α β : Type} (f : α → β) (xs : List α) (lo hi : Option Int) : cut (xs.map f) lo hi = (cut xs lo hi).map f := by
  unfold cut
  rw [List.length_map, List.map_take, List.map_drop]
theorem RDs.ints {K : Fg} {I : Hp} : ∀ ns : List Int, RDs K I (ns.map .int) (ns.map V.int)
  | [] => RDs.nil
  | n :: ns => RDs.cons (by simp only [RD]) (RDs.ints ns)
theorem sl_C {X : Cx} : SlR X (rCsl X.K) := SlR.imp (sl_list.or (sl_str.or sl_tupA)) fun x lo hi H Q h => by
  obtain ⟨I, dx, e, hx, q⟩ := h
  cases dx with
  | lst l =>
    obtain ⟨p, vs, rfl, h1, r1⟩ := hx
    exact .inl ⟨p, vs, rfl, SqL.of h1, fun z hz => q z _ hz (r1.cut lo hi)⟩
  | scr ns =>
    simp only [RC, RD] at hx
    obtain ⟨p, rfl, h1⟩ := hx
    refine .inl ⟨p, _, rfl, e.sqL h1, fun z hz => q z _ hz ?_⟩
    have e1 : cutV (ns.map V.int) lo hi = (cut ns lo hi).map V.int := cut_map V.int ns lo hi
    rw [e1]
    exact RDs.ints _
  | str s =>
    simp only [RC, RD] at hx; subst hx
    simp only [gSl] at q
    split at q
    · rename_i c
      refine .inr (.inl ⟨_, rfl, by rw [str_len, lim_eq]; exact c, ?_⟩)
      refine orq_val q ?_
      simp only [RD]
      unfold cutS TL.cut
      rw [str_len]
    · exact q.elim
  | tup l =>
    have hx0 := hx
    simp only [RC, RD] at hx
    obtain ⟨p, vs, rfl, h1, r1⟩ := hx
    refine .inr (.inr ⟨p, vs, rfl, SqT.of (e _ _ h1), fun c => ?_, fun c z hz => ?_⟩)
    · simp only [gSl] at q
      rw [r1.len] at c
      rw [if_pos c] at q
      -- the whole tuple
      exact q _ hx0
    · simp only [gSl] at q
      rw [r1.len] at c
      rw [if_neg c] at q
      exact q z _ hz (r1.cut lo hi)
  | _ => exact q.elim
end
end TL

set_option Elab.async false
set_option linter.all false
set_option autoImplicit false
set_option maxRecDepth 100000
set_option maxHeartbeats 4000000
namespace TL
open PySem PySem.Spec PyProof.Rows L2

/-! ## statements -/
inductive SOut where
  | nx (e : Env) | rt (v : Val) (e : Env) | bk (e : Env) | ct (e : Env) | ex (c : Str) (d : D) (e : Env) | bad
abbrev SS := Env → SOut
def Ext (O O' : Addr → Prop) (H : Hp) : Prop := ∀ a, O' a → O a ∨ H a = none
def Kp (P : List Nat) (σ σ' : L2.St) : Prop := ∀ i ∈ P, σ'[i]? = σ[i]?
/-- how far one has come -/
structure Way (P : List Nat) (O : Addr → Prop) (I H : Hp) (σ : L2.St) (O' : Addr → Prop) (I' H' : Hp) (σ' : L2.St) : Prop where
  ex : Ext O O' H
  st : Stp O I H I' H'
  kp : Kp P σ σ'
section
variable {P : List Nat} {O O1 O2 : Addr → Prop} {I H I1 H1 I2 H2 : Hp} {σ σ1 σ2 : L2.St}
theorem Way.refl : Way P O I H σ O I H σ := ⟨fun _ h => .inl h, Stp.refl, fun _ _ => rfl⟩
theorem Way.tr (a : Way P O I H σ O1 I1 H1 σ1) (b : Way P O1 I1 H1 σ1 O2 I2 H2 σ2) : Way P O I H σ O2 I2 H2 σ2 := by
  refine ⟨fun x h => ?_, ⟨a.st.ii.tr b.st.ii, fun x o n e => b.st.hh x o (fun z => ?_) (a.st.hh x o n e), fun x h => b.st.nn x (a.st.nn x h), fun x n h1 h2 => b.st.fr x (fun z => ?_) (a.st.fr x n h1 h2) (a.st.nn x h2)⟩, fun i hi => (b.kp i hi).trans (a.kp i hi)⟩
  · rcases b.ex x h with h | h
    · exact a.ex x h
    · exact .inr (a.st.gone h)
  · rcases a.ex x z with z | z
    · exact n z
    · rw [e] at z; cases z
  · rcases a.ex x z with z | z
    · exact n z
    · exact h2 z
theorem Way.of (st : Stp O I H I1 H1) : Way P O I H σ O I1 H1 σ := ⟨fun _ h => .inl h, st, fun _ _ => rfl⟩
end
def PostS (S : Srd) (P : List Nat) (O : Addr → Prop) (I H : Hp) (σ : L2.St) (o : SOut) (D : Ends) : Prop :=
  match o with
  | .nx e => ∀ O' σ' I' H', Way P O I H σ O' I' H' σ' → SR S.K O' I' H' σ' e → D.nx σ' H'
  | .rt vl e => ∀ O' σ' I' H', Way P O I H σ O' I' H' σ' → SR S.K O' I' H' σ' e → ∀ v, VR S.K H I' H' σ' vl v → D.rt v H'
  | .bk e => ∀ O' σ' I' H', Way P O I H σ O' I' H' σ' → SR S.K O' I' H' σ' e → D.bk σ' H'
  | .ct e => ∀ O' σ' I' H', Way P O I H σ O' I' H' σ' → SR S.K O' I' H' σ' e → D.ct σ' H'
  | .ex c d e => ∀ O' σ' I' H', Way P O I H σ O' I' H' σ' → SR S.K O' I' H' σ' e → ∀ dd v, H dd = none → H' dd = some (.xd [(("value" : Str), v)]) → RD S.K I' d v → S.W (.ref (S.ca c)) (some dd) σ' H'
  | .bad => False
def rdS (S : Srd) (P : List Nat) (f : SS) : TS := fun D σ H => ∃ O I env, SR S.K O I H σ env ∧ PostS S P O I H σ (f env) D
section
variable {S : Srd} {P : List Nat} {O O1 : Addr → Prop} {I H I1 H1 : Hp} {σ σ1 : L2.St} {env : Env} {D D' : Ends} {o : SOut}
theorem PostS.step (h : PostS S P O I H σ o D) (w : Way P O I H σ O1 I1 H1 σ1) : PostS S P O1 I1 H1 σ1 o D := by
  cases o with
  | nx e => exact fun O' σ' I' H' w' sr => h O' σ' I' H' (w.tr w') sr
  | rt vl e => exact fun O' σ' I' H' w' sr v r => h O' σ' I' H' (w.tr w') sr v (r.from fun a q => w.st.gone q)
  | bk e => exact fun O' σ' I' H' w' sr => h O' σ' I' H' (w.tr w') sr
  | ct e => exact fun O' σ' I' H' w' sr => h O' σ' I' H' (w.tr w') sr
  | ex c d e => exact fun O' σ' I' H' w' sr dd v n q r => h O' σ' I' H' (w.tr w') sr dd v (w.st.gone n) q r
  | bad => exact h
theorem PostS.of_ex {c : Str} {d : TL.D} {e : Env} (h : PostS S P O I H σ (.ex c d e) D) : PExc S O I H σ c d e := fun dd v I' H' st sr n q r => h O σ I' H' (Way.of st) sr dd v n q r
/-- an expression ahead of the rest -/
def eB {α : Type} (o : Out α) (k : α → Env → SOut) : SOut := match o with
  | .ok a e => k a e
  | .ex c d e => .ex c d e
  | .bad => .bad
@[simp] theorem eB_ok {α : Type} (a : α) (e : Env) (k : α → Env → SOut) : eB (.ok a e) k = k a e := rfl
@[simp] theorem eB_ex {α : Type} (c : Str) (d : TL.D) (e : Env) (k : α → Env → SOut) : eB (.ex c d e) k = .ex c d e := rfl
@[simp] theorem eB_bad {α : Type} (k : α → Env → SOut) : eB .bad k = .bad := rfl
theorem PostS.eb {α : Type} {o : Out α} {k : α → Env → SOut} (h : PostS S P O I H σ (eB o k) D) :
    Post S O I H σ env o fun a e I' H' => Stp O I H I' H' ∧ PostS S P O I H σ (k a e) D := by
  cases o with
  | ok a e => exact fun I1 H1 st _ => ⟨st, h⟩
  | ex c d e => exact PostS.of_ex h
  | bad => exact h

def sSeq (f g : SS) : SS := fun e => match f e with | .nx e1 => g e1 | o => o
theorem rdS_seq {f g : SS} (h : rdS S P (sSeq f g) D σ H) : tSeq (rdS S P f) (rdS S P g) D σ H := by
  obtain ⟨O, I, env, sr, Q⟩ := h
  refine ⟨O, I, env, sr, ?_⟩
  simp only [sSeq] at Q
  cases q : f env with
  | nx e1 => rw [q] at Q; exact fun O' σ' I' H' w sr' => ⟨O', I', e1, sr', PostS.step (show PostS S P O I H σ (g e1) D from Q) w⟩
  | rt vl e => rw [q] at Q; exact Q
  | bk e => rw [q] at Q; exact Q
  | ct e => rw [q] at Q; exact Q
  | ex c d e => rw [q] at Q; exact Q
  | bad => rw [q] at Q; exact Q
def sSkip : SS := fun e => .nx e
theorem rdS_skip (h : rdS S P sSkip D σ H) : tNext D σ H := by
  obtain ⟨O, I, env, sr, Q⟩ := h
  exact Q O σ I H Way.refl sr

/-! ### slots stored -/
theorem get_set {α : Type} (l : List α) (i j : Nat) (a b : α) (h : (l.set i a)[j]? = some b) : (j = i ∧ b = a) ∨ (j ≠ i ∧ l[j]? = some b) := by
  by_cases e : i = j
  · subst e
    by_cases hi : i < l.length
    · rw [List.getElem?_set_self hi] at h; exact .inl ⟨rfl, (Option.some.inj h).symm⟩
    · rw [List.getElem?_eq_none (by simpa using hi)] at h; cases h
  · rw [List.getElem?_set_ne e] at h; exact .inr ⟨fun z => e z.symm, h⟩
theorem set_at {α : Type} {l : List α} {i : Nat} {a b : α} (h : (l.set i a)[i]? = some b) : i < l.length := by
  have := (List.getElem?_eq_some_iff.mp h).1
  simpa using this
theorem SR.set_imm {K : Fg} {i : Nat} {d : TL.D} {v : V} (sr : SR K O I H σ env) (r : RD K I d v) : SR K O I H (σ.set i (some v)) (env.set i (.imm d)) := by
  refine ⟨by rw [List.length_set, List.length_set]; exact sr.len, sr.ext, sr.oh, fun j d' h => ?_, ?_⟩
  · rcases get_set _ _ _ _ _ h with ⟨rfl, e⟩ | ⟨ne, h⟩
    · cases e
      have hj : j < env.length := set_at h
      exact ⟨v, by rw [List.getElem?_set_self (by rw [← sr.len]; exact hj)], r⟩
    · obtain ⟨w, a, b⟩ := sr.imm j d' h
      exact ⟨w, by rw [List.getElem?_set_ne (fun z => ne z.symm)]; exact a, b⟩
  · obtain ⟨F, fp⟩ := sr.fp
    refine ⟨fun j => if j = i then [] else F j, fun j a h => ?_, fun j => ?_, fun j k a h1 h2 => ?_, fun j l h => ?_, fun j t h => ?_⟩
    · split at h
      · cases h
      · exact fp.fo j a h
    · split
      · exact List.nodup_nil
      · exact fp.nd j
    · split at h1
      · cases h1
      · split at h2
        · cases h2
        · exact fp.dj j k a h1 h2
    · rcases get_set _ _ _ _ _ h with ⟨rfl, e⟩ | ⟨ne, h⟩
      · cases e
      · obtain ⟨p, vs, a, b, c⟩ := fp.own j l h
        exact ⟨p, vs, by rw [List.getElem?_set_ne (fun z => ne z.symm)]; exact a, by simp only [ne, if_false]; exact b, c⟩
    · rcases get_set _ _ _ _ _ h with ⟨rfl, e⟩ | ⟨ne, h⟩
      · cases e
      · obtain ⟨w, a, b⟩ := fp.deep j t h
        exact ⟨w, by rw [List.getElem?_set_ne (fun z => ne z.symm)]; exact a, by simp only [ne, if_false]; exact b⟩
/-- a slot is given lists of its own -/
theorem SR.set_new {K : Fg} {i : Nat} {s : Sl} {v : V} {L : List Addr} (sr : SR K O I H σ env) (hn : ∀ a ∈ L, ¬ O a) (hL : L.Nodup) (hi : ∀ a ∈ L, I a = none ∧ H a ≠ none)
    (h : (∃ l p vs, s = .own l ∧ v = .ref p ∧ L = [p] ∧ H p = some (.lst vs) ∧ RDs K I l vs) ∨ ∃ t, s = .deep t ∧ RO K I H t v L) : SR K (fun a => O a ∨ a ∈ L) I H (σ.set i (some v)) (env.set i s) := by
  refine ⟨by rw [List.length_set, List.length_set]; exact sr.len, sr.ext, fun a q => q.elim (sr.oh a) fun q => (hi a q).2, fun j d' h' => ?_, ?_⟩
  · rcases get_set _ _ _ _ _ h' with ⟨rfl, e⟩ | ⟨ne, h'⟩
    · rcases h with ⟨l, p, vs, rfl, _⟩ | ⟨t, rfl, _⟩ <;> cases e
    · obtain ⟨w, a, b⟩ := sr.imm j d' h'
      exact ⟨w, by rw [List.getElem?_set_ne (fun z => ne z.symm)]; exact a, b⟩
  · obtain ⟨F, fp⟩ := sr.fp
    refine ⟨fun j => if j = i then L else F j, fun j a h => ?_, fun j => ?_, fun j k a h1 h2 => ?_, fun j l h' => ?_, fun j t h' => ?_⟩
    · split at h
      · exact ⟨.inr h, (hi a h).1⟩
      · exact ⟨.inl (fp.fo j a h).1, (fp.fo j a h).2⟩
    · split
      · exact hL
      · exact fp.nd j
    · split at h1
      · rename_i e1
        split at h2
        · rename_i e2; rw [e1, e2]
        · exact absurd (fp.fo k a h2).1 (hn a h1)
      · split at h2
        · exact absurd (fp.fo j a h1).1 (hn a h2)
        · exact fp.dj j k a h1 h2
    · rcases get_set _ _ _ _ _ h' with ⟨rfl, e⟩ | ⟨ne, h'⟩
      · have hj : j < env.length := set_at h'
        rcases h with ⟨l', p, vs, rfl, rfl, rfl, q, r⟩ | ⟨t, rfl, _⟩
        · cases e
          exact ⟨p, vs, by rw [List.getElem?_set_self (by rw [← sr.len]; exact hj)], by simp, q, r⟩
        · cases e
      · obtain ⟨p, vs, a, b, c⟩ := fp.own j l h'
        exact ⟨p, vs, by rw [List.getElem?_set_ne (fun z => ne z.symm)]; exact a, by simp only [ne, if_false]; exact b, c⟩
    · rcases get_set _ _ _ _ _ h' with ⟨rfl, e⟩ | ⟨ne, h'⟩
      · have hj : j < env.length := set_at h'
        rcases h with ⟨l', p, vs, rfl, _⟩ | ⟨t', rfl, r⟩
        · cases e
        · cases e
          exact ⟨v, by rw [List.getElem?_set_self (by rw [← sr.len]; exact hj)], by simp only [if_true]; exact r⟩
      · obtain ⟨w, a, b⟩ := fp.deep j t h'
        exact ⟨w, by rw [List.getElem?_set_ne (fun z => ne z.symm)]; exact a, by simp only [ne, if_false]; exact b⟩

/-! ### x = e -/
def sAsg (i : Nat) (f : SF) : SS := fun e => eB (f e) fun x e1 => eB (frz x e1) fun d e2 => .nx (e2.set i (.imm d))
/-- a list of one's own -/
def sAsgO (i : Nat) (f : SF) : SS := fun e => eB (f e) fun x e1 => match x with | .cell l => .nx (e1.set i (.own l)) | .deep t => .nx (e1.set i (.deep t)) | _ => .bad
theorem kp_set {i : Nat} {v : V} (hi : i ∉ P) : Kp P σ (σ.set i (some v)) := fun j hj => List.getElem?_set_ne fun (e : i = j) => hi (e ▸ hj)
theorem rdS_asg {i : Nat} {f : SF} (hi : i ∉ P) (h : rdS S P (sAsg i f) D σ H) : tAsg (rd S f) (gName i) D σ H := by
  obtain ⟨O, I, env, sr, Q⟩ := h
  refine ⟨O, I, env, sr, (PostS.eb Q).imp fun x e1 I1 H1 st1 sr1 ⟨_, P1⟩ vx hx => ?_⟩
  cases q : frz x e1 with
  | bad => rw [q] at P1; exact P1.elim
  | ex c d e => cases x <;> cases q
  | ok d e2 =>
    obtain rfl := frz_env q
    obtain ⟨J, st, sr2, hd, le, _⟩ := frz_ok sr1 sr.oh st1 hx q
    rw [q] at P1
    exact P1 O _ J H1 ⟨fun _ h => .inl h, st, kp_set hi⟩ (sr2.set_imm hd)
theorem rdS_asgO {i : Nat} {f : SF} (hi : i ∉ P) (h : rdS S P (sAsgO i f) D σ H) : tAsg (rd S f) (gName i) D σ H := by
  obtain ⟨O, I, env, sr, Q⟩ := h
  refine ⟨O, I, env, sr, (PostS.eb Q).imp fun x e1 I1 H1 st1 sr1 ⟨_, P1⟩ vx hx => ?_⟩
  cases x with
  | imm d => exact P1.elim
  | view j => exact P1.elim
  | cell l =>
    obtain ⟨p, vs, rfl, a, b, c, r⟩ := hx
    have so : ¬ O p := fun z => sr.oh p z a
    refine P1 _ _ I1 H1 ⟨fun x q => ?_, st1, kp_set hi⟩ (sr1.set_new (s := .own l) (L := [p]) (by simpa using so) (by simp) (by simp [b, c]) (.inl ⟨l, p, vs, rfl, rfl, rfl, c, r⟩))
    rcases q with q | q
    · exact .inl q
    · rw [List.mem_singleton] at q; rw [q]; exact .inr a
  | deep t =>
    obtain ⟨L, a, b, c⟩ := hx
    refine P1 _ _ I1 H1 ⟨fun x q => ?_, st1, kp_set hi⟩ (sr1.set_new (s := .deep t) (L := L) (fun x hx z => sr.oh x z (c x hx)) b (fun x hx => ?_) (.inr ⟨t, rfl, a⟩))
    · rcases q with q | q
      · exact .inl q
      · exact .inr (c x q)
    · obtain ⟨h1, vs, h2⟩ := a.own x hx
      exact ⟨h1, by rw [h2]; simp⟩
/-- from here on the list in slot i stands as it is -/
def sFrz (i : Nat) : SS := fun e => match e[i]? with | some (.own l) => .nx (e.set i (.imm (.lst l))) | _ => .bad
theorem set_same {α : Type} {l : List α} {i : Nat} {a : α} (h : l[i]? = some a) : l.set i a = l := by
  apply List.ext_getElem?
  intro j
  by_cases e : i = j
  · subst e
    rw [List.getElem?_set_self (List.getElem?_eq_some_iff.mp h).1, h]
  · rw [List.getElem?_set_ne e]
theorem rdS_frz {i : Nat} {f : SS} (h : rdS S P (sSeq (sFrz i) f) D σ H) : rdS S P f D σ H := by
  obtain ⟨O, I, env, sr, Q⟩ := h
  simp only [sSeq, sFrz] at Q
  cases el : env[i]? with
  | none => rw [el] at Q; exact Q.elim
  | some sl =>
    rw [el] at Q
    cases sl with
    | non => exact Q.elim
    | imm d => exact Q.elim
    | deep t => exact Q.elim
    | own l =>
      replace Q : PostS S P O I H σ (f (env.set i (.imm (.lst l)))) D := Q
      obtain ⟨F, fp⟩ := sr.fp
      obtain ⟨p, vs, a, b, c, r⟩ := fp.own i l el
      obtain ⟨hO, hI⟩ := fp.fo i p (by rw [b]; simp)
      -- the list is told; it is the slot's own no more
      have sr1 : SR S.K (fun x => O x ∧ x ≠ p) (upd I p (.lst vs)) H (σ.set i (some (.ref p))) (env.set i (.imm (.lst l))) := by
        have base : SR S.K (fun x => O x ∧ x ≠ p) I H σ (env.set i .non) := by
          refine ⟨by rw [List.length_set]; exact sr.len, sr.ext, fun x q => sr.oh x q.1, fun j d h => ?_, ⟨fun j => if j = i then [] else F j, fun j x h => ?_, fun j => ?_, fun j k x h1 h2 => ?_, fun j l' h => ?_, fun j t h => ?_⟩⟩
          · rcases get_set _ _ _ _ _ h with ⟨rfl, e⟩ | ⟨ne, h⟩
            · cases e
            · exact sr.imm j d h
          · split at h
            · cases h
            · rename_i ne
              exact ⟨⟨(fp.fo j x h).1, fun z => ne (fp.dj j i x h (by rw [b, z]; simp))⟩, (fp.fo j x h).2⟩
          · split
            · exact List.nodup_nil
            · exact fp.nd j
          · split at h1
            · cases h1
            · split at h2
              · cases h2
              · exact fp.dj j k x h1 h2
          · rcases get_set _ _ _ _ _ h with ⟨rfl, e⟩ | ⟨ne, h⟩
            · cases e
            · obtain ⟨p', vs', a', b', c'⟩ := fp.own j l' h
              exact ⟨p', vs', a', by simp only [ne, if_false]; exact b', c'⟩
          · rcases get_set _ _ _ _ _ h with ⟨rfl, e⟩ | ⟨ne, h⟩
            · cases e
            · obtain ⟨w, a', b'⟩ := fp.deep j t h
              exact ⟨w, a', by simp only [ne, if_false]; exact b'⟩
        have b2 := (base.froze (p := p) (o := .lst vs) (fun z => z.2 rfl) hI c).set_imm (i := i) (d := .lst l) (v := .ref p) (by
          simp only [RD]
          exact ⟨p, vs, rfl, upd_same, RDs.mono (Le.new hI) r⟩)
        rw [List.set_set] at b2
        exact b2
      have e2 : σ.set i (some (.ref p)) = σ := set_same a
      rw [e2] at sr1
      refine ⟨_, _, _, sr1, PostS.step Q ⟨fun x h => .inl h.1, ⟨Le.new hI, fun _ _ _ h => h, fun _ h => h, fun x n h1 h2 => ?_⟩, fun _ _ => rfl⟩⟩
      rw [upd_ne (fun z => n (by rw [z]; exact hO))]
      exact h1
end
end TL

set_option Elab.async false
set_option linter.all false
set_option autoImplicit false
set_option maxRecDepth 100000
set_option maxHeartbeats 4000000
namespace TL
open PySem PySem.Spec PyProof.Rows L2

section
variable {S : Srd} {P : List Nat} {O O1 : Addr → Prop} {I H I1 H1 : Hp} {σ σ1 : L2.St} {env : Env} {D D' : Ends} {o : SOut}
/-! ### if, return, an expression alone -/
def sIfS (t : SB) (f g : SS) : SS := fun e => eB (t e) fun b e1 => if b = true then f e1 else g e1
def sRet (f : SF) : SS := fun e => eB (f e) fun x e1 => .rt x e1
def sRetN : SS := fun e => .rt (.imm .non) e
def sDrop (f : SF) : SS := fun e => eB (f e) fun _ e1 => .nx e1
def sBad : SS := fun _ => .bad
def sBrk : SS := fun e => .bk e
def sCnt : SS := fun e => .ct e
theorem rdS_if {t : SB} {f g : SS} (h : rdS S P (sIfS t f g) D σ H) : tIfS (rdT S t) (rdS S P f) (rdS S P g) D σ H := by
  obtain ⟨O, I, env, sr, Q⟩ := h
  refine ⟨O, I, env, sr, (PostS.eb Q).imp fun b e1 I1 H1 st1 sr1 ⟨_, P1⟩ => ?_⟩
  cases b with
  | true => exact ⟨O, I1, e1, sr1, PostS.step P1 (Way.of st1)⟩
  | false => exact ⟨O, I1, e1, sr1, PostS.step P1 (Way.of st1)⟩
theorem rdS_ret {f : SF} (h : rdS S P (sRet f) D σ H) : tRet (rd S f) D σ H := by
  obtain ⟨O, I, env, sr, Q⟩ := h
  exact ⟨O, I, env, sr, (PostS.eb Q).imp fun x e1 I1 H1 st1 sr1 ⟨_, P1⟩ v hv => P1 O σ I1 H1 (Way.of st1) sr1 v hv⟩
theorem rdS_retN (h : rdS S P sRetN D σ H) : tRetN D σ H := by
  obtain ⟨O, I, env, sr, Q⟩ := h
  exact Q O σ I H Way.refl sr _ (show RD S.K I .non _ by simp only [RD])
theorem rdS_drop {f : SF} (h : rdS S P (sDrop f) D σ H) : tDrop (rd S f) D σ H := by
  obtain ⟨O, I, env, sr, Q⟩ := h
  exact ⟨O, I, env, sr, (PostS.eb Q).imp fun x e1 I1 H1 st1 sr1 ⟨_, P1⟩ v hv => P1 O σ I1 H1 (Way.of st1) sr1⟩
theorem rdS_brk (h : rdS S P sBrk D σ H) : tBreak D σ H := by
  obtain ⟨O, I, env, sr, Q⟩ := h
  exact Q O σ I H Way.refl sr
theorem rdS_cnt (h : rdS S P sCnt D σ H) : tCont D σ H := by
  obtain ⟨O, I, env, sr, Q⟩ := h
  exact Q O σ I H Way.refl sr
theorem rdS_bad (h : rdS S P sBad D σ H) : False := by
  obtain ⟨O, I, env, sr, Q⟩ := h
  exact Q

/-! ### a list of one's own is changed -/
theorem SR.chg {K : Fg} {i : Nat} {l l' : List TL.D} {p : Addr} {vs' : List V} (sr : SR K O I H σ env) (h : env[i]? = some (.own l)) (hp : σ[i]? = some (some (.ref p))) (r : RDs K I l' vs') :
    SR K O I (upd H p (.lst vs')) σ (env.set i (.own l')) ∧ O p ∧ I p = none := by
  obtain ⟨F, fp⟩ := sr.fp
  obtain ⟨p', vs, a, b, c, r0⟩ := fp.own i l h
  rw [hp] at a; cases a
  obtain ⟨hO, hI⟩ := fp.fo i p (by rw [b]; simp)
  have hF : ∀ j a, j ≠ i → a ∈ F j → a ≠ p := fun j a ne ha z => ne (fp.dj j i a ha (by rw [b, z]; simp))
  refine ⟨⟨by rw [List.length_set]; exact sr.len, fun a u e => ?_, fun a ha => ?_, fun j d e => ?_, ⟨F, fp.fo, fp.nd, fp.dj, fun j m e => ?_, fun j t e => ?_⟩⟩, hO, hI⟩
  · rw [upd_ne (fun z : a = p => by rw [z, hI] at e; cases e)]; exact sr.ext a u e
  · by_cases z : a = p
    · rw [z, upd_same]; simp
    · rw [upd_ne z]; exact sr.oh a ha
  · rcases get_set _ _ _ _ _ e with ⟨rfl, e2⟩ | ⟨ne, e2⟩
    · cases e2
    · exact sr.imm j d e2
  · rcases get_set _ _ _ _ _ e with ⟨rfl, e2⟩ | ⟨ne, e2⟩
    · cases e2
      exact ⟨p, vs', hp, b, upd_same, r⟩
    · obtain ⟨q, ws, a1, a2, a3, a4⟩ := fp.own j m e2
      exact ⟨q, ws, a1, a2, by rw [upd_ne (hF j q ne (by rw [a2]; simp))]; exact a3, a4⟩
  · rcases get_set _ _ _ _ _ e with ⟨rfl, e2⟩ | ⟨ne, e2⟩
    · cases e2
    · obtain ⟨w, a1, a2⟩ := fp.deep j t e2
      exact ⟨w, a1, RO.mono Le.rfl' a2 fun q o hq hi ho => ⟨hi, by rw [upd_ne (hF j q ne hq)]; exact ho⟩⟩
theorem Stp.chg {p : Addr} {o : HO} (hO : O p) : Stp O I H I (upd H p o) :=
  ⟨Le.rfl', fun a u n e => by rw [upd_ne (fun z : a = p => n (z ▸ hO))]; exact e, fun a h => by
    by_cases z : a = p
    · rw [z, upd_same]; simp
    · rw [upd_ne z]; exact h, fun _ _ h _ => h⟩
/-- x.append(e) -/
def sApp (i : Nat) (f : SF) : SS := fun e => match e[i]? with
  | some (.own _) => eB (f e) fun x e1 => eB (frz x e1) fun d e2 => match e2[i]? with | some (.own l) => if l.length < lim then .nx (e2.set i (.own (l ++ [d]))) else .bad | _ => .bad
  | _ => .bad
theorem rdS_app {i : Nat} {f : SF} (h : rdS S P (sApp i f) D σ H) : tDrop (tBM S.K "list" rAppend (tVar i) (tCons (rd S f) tNil)) D σ H := by
  obtain ⟨O, I, env, sr, Q⟩ := h
  simp only [sApp] at Q
  cases el : env[i]? with
  | none => rw [el] at Q; exact Q.elim
  | some sl =>
    rw [el] at Q
    cases sl with
    | non => exact Q.elim
    | imm d => exact Q.elim
    | deep t => exact Q.elim
    | own l0 =>
      obtain ⟨F, fp⟩ := sr.fp
      obtain ⟨p, vs, a, b, c, r⟩ := fp.own i l0 el
      refine ⟨.ref p, a, .inl ⟨rfl, vs, SqL.of c⟩, O, I, env, sr, (PostS.eb Q).imp fun x e1 I1 H1 st1 sr1 ⟨_, P1⟩ vx hx => ?_⟩
      cases q : frz x e1 with
      | bad => rw [q] at P1; exact P1.elim
      | ex c d e => cases x <;> cases q
      | ok d e2 =>
        obtain rfl := frz_env q
        obtain ⟨J, st, sr2, hd, le, _⟩ := frz_ok sr1 sr.oh st1 hx q
        rw [q, eB_ok] at P1
        cases el2 : e2[i]? with
        | none => rw [el2] at P1; exact P1.elim
        | some sl =>
          rw [el2] at P1
          cases sl with
          | non => exact P1.elim
          | imm d => exact P1.elim
          | deep t => exact P1.elim
          | own l =>
            obtain ⟨F2, fp2⟩ := sr2.fp
            obtain ⟨p2, vs2, a2, b2, c2, r2⟩ := fp2.own i l el2
            rw [a] at a2; cases a2
            by_cases hz : l.length < lim
            · simp only [hz, if_true] at P1
              obtain ⟨sr3, hO, hI⟩ := sr2.chg el2 a (r2.app (RDs.cons hd RDs.nil))
              refine ⟨p, vs2, vx, rfl, rfl, c2, by rw [r2.len, lim_eq]; exact hz, ?_⟩
              exact P1 O σ J _ (Way.of (st.tr (Stp.chg hO))) sr3
            · simp only [hz, if_false] at P1; exact P1.elim
/-- x.pop() -/
def sPop (i : Nat) : SF := fun e => match e[i]? with
  | some (.own l) => match l.getLast? with | some d => .ok (.imm d) (e.set i (.own l.dropLast)) | none => .bad
  | _ => .bad
theorem rd_pop {i : Nat} {Q : VK} (h : rd S (sPop i) σ H Q) : tBM0 S.K "list" rPop (tVar i) σ H Q := by
  obtain ⟨O, I, env, sr, P1⟩ := h
  simp only [sPop] at P1
  cases el : env[i]? with
  | none => rw [el] at P1; exact P1.elim
  | some sl =>
    rw [el] at P1
    cases sl with
    | non => exact P1.elim
    | imm d => exact P1.elim
    | deep t => exact P1.elim
    | own l =>
      obtain ⟨F, fp⟩ := sr.fp
      obtain ⟨p, vs, a, b, c, r⟩ := fp.own i l el
      cases q : l.getLast? with
      | none => simp only [q] at P1; exact P1.elim
      | some d =>
        simp only [q] at P1
        rw [List.getLast?_eq_getElem?] at q
        obtain ⟨v, h1, h2⟩ := r.get' q
        have rr : RDs S.K I l.dropLast vs.dropLast := by
          rw [List.dropLast_eq_take, List.dropLast_eq_take, r.len]
          exact r.take _
        obtain ⟨sr3, hO, hI⟩ := sr.chg el a rr
        refine ⟨.ref p, a, .inl ⟨rfl, vs, SqL.of c⟩, p, vs, v, rfl, rfl, c, by rw [r.len]; exact h1, ?_⟩
        exact P1 I _ (Stp.chg hO) sr3 v h2
/-- x[i] = e : the value, the list, the place -/
def sSet (i : Nat) (fv fk : SF) : SS := fun e => eB (fv e) fun x e1 => eB (frz x e1) fun d e2 => match e2[i]? with
  | some (.own _) => eB (fk e2) fun k e3 => match k, e3[i]? with
    | .imm (.int z), some (.own l) => (match ixN l.length z with | some j => .nx (e3.set i (.own (l.set j d))) | none => .bad)
    | _, _ => .bad
  | _ => .bad
theorem rdS_set {i : Nat} {fv fk : SF} (h : rdS S P (sSet i fv fk) D σ H) : tAsg (rd S fv) (L2.gSub (tVar i) (rd S fk) rSetL) D σ H := by
  obtain ⟨O, I, env, sr, Q⟩ := h
  refine ⟨O, I, env, sr, (PostS.eb Q).imp fun x e1 I1 H1 st1 sr1 ⟨_, P1⟩ vx hx => ?_⟩
  cases q : frz x e1 with
  | bad => rw [q] at P1; exact P1.elim
  | ex c d e => cases x <;> cases q
  | ok d e2 =>
    obtain rfl := frz_env q
    obtain ⟨J, st, sr2, hd, le, _⟩ := frz_ok sr1 sr.oh st1 hx q
    rw [q, eB_ok] at P1
    cases el : e2[i]? with
    | none => rw [el] at P1; exact P1.elim
    | some sl =>
      rw [el] at P1
      cases sl with
      | non => exact P1.elim
      | imm d => exact P1.elim
      | deep t => exact P1.elim
      | own l0 =>
        obtain ⟨F, fp⟩ := sr2.fp
        obtain ⟨p, vs, a, b, c, r⟩ := fp.own i l0 el
        refine ⟨.ref p, a, O, J, e2, sr2, (PostS.eb (PostS.step P1 (Way.of st))).imp fun k e3 I3 H3 st3 sr3 ⟨_, P3⟩ vk hk => ?_⟩
        cases k with
        | cell l => exact P3.elim
        | deep t => exact P3.elim
        | view j => exact P3.elim
        | imm dk =>
          cases dk with
          | int z =>
            cases el3 : e3[i]? with
            | none => rw [el3] at P3; exact P3.elim
            | some sl =>
              rw [el3] at P3
              cases sl with
              | non => exact P3.elim
              | imm d => exact P3.elim
              | deep t => exact P3.elim
              | own l =>
                obtain ⟨F3, fp3⟩ := sr3.fp
                obtain ⟨p3, vs3, a3, b3, c3, r3⟩ := fp3.own i l el3
                rw [a] at a3; cases a3
                cases hj : ixN l.length z with
                | none => simp only [hj] at P3; exact P3.elim
                | some j =>
                  simp only [hj] at P3
                  have hk : RD S.K I3 (.int z) vk := hk
                  simp only [RD] at hk
                  obtain ⟨sr4, hO, hI⟩ := sr3.chg el3 a (RDs.set j r3 (RD.mono st3.ii hd))
                  refine ⟨p, vs3, z, j, rfl, hk, c3, by rw [r3.len]; exact hj, ?_⟩
                  exact P3 O σ I3 _ (Way.of (st3.tr (Stp.chg hO))) sr4
          | _ => exact P3.elim
/-- x[i] op= e, ints: the list, the place, what stands there, the value -/
def sAugS (i : Nat) (fk : SF) (g : Int → Int → Int) (fv : SF) : SS := fun e => match e[i]? with
  | some (.own _) => eB (fk e) fun k e1 => match k, e1[i]? with
    | .imm (.int z), some (.own l) => (match atI l z with
      | some (.int a) => eB (fv e1) fun x e2 => match x, e2[i]? with
        | .imm (.int b), some (.own l2) => (match ixN l2.length z with | some j => .nx (e2.set i (.own (l2.set j (.int (g a b))))) | none => .bad)
        | _, _ => .bad
      | _ => .bad)
    | _, _ => .bad
  | _ => .bad
/-- x op= e, ints -/
def sAug (i : Nat) (g : Int → Int → Int) (fv : SF) : SS := fun e => match e[i]? with
  | some (.imm (.int a)) => eB (fv e) fun x e1 => match x with | .imm (.int b) => .nx (e1.set i (.imm (.int (g a b)))) | _ => .bad
  | _ => .bad
theorem rdS_aug {i : Nat} {g : Int → Int → Int} {fv : SF} (hi : i ∉ P) (h : rdS S P (sAug i g fv) D σ H) : tAug i (rd S fv) (ipI g) D σ H := by
  obtain ⟨O, I, env, sr, Q⟩ := h
  simp only [sAug] at Q
  split at Q
  · rename_i a el
    obtain ⟨v, h1, h2⟩ := sr.imm i _ el
    simp only [RD] at h2; subst h2
    refine ⟨_, h1, O, I, env, sr, (PostS.eb Q).imp fun x e1 I1 H1 st1 sr1 ⟨_, P1⟩ vx hx => ?_⟩
    cases x with
    | cell l => exact P1.elim
    | deep t => exact P1.elim
    | view j => exact P1.elim
    | imm dk =>
      cases dk with
      | int b =>
        have hx : RD S.K I1 (.int b) vx := hx
        simp only [RD] at hx
        exact ⟨a, b, rfl, hx, P1 O _ I1 H1 ⟨fun _ h => .inl h, st1, kp_set hi⟩ (sr1.set_imm (by simp only [RD]))⟩
      | _ => exact P1.elim
  · exact Q.elim
/-- x, y = a, b -/
def sPar (i j : Nat) (fr : SD) : SS := fun e => eB (fr e) fun l e1 => match l with | [a, b] => .nx ((e1.set i (.imm a)).set j (.imm b)) | _ => .bad
theorem rdS_par {i j : Nat} {fr : SD} (hi : i ∉ P) (hj : j ∉ P) (h : rdS S P (sPar i j fr) D σ H) : tPar i j (rdD S fr) D σ H := by
  obtain ⟨O, I, env, sr, Q⟩ := h
  refine ⟨O, I, env, sr, (PostS.eb Q).imp fun l e1 I1 H1 st1 sr1 ⟨_, P1⟩ vs hvs => ?_⟩
  match l, hvs, P1 with
  | [], _, P1 => exact P1.elim
  | [_], _, P1 => exact P1.elim
  | _ :: _ :: _ :: _, _, P1 => exact P1.elim
  | [a, b], hvs, P1 =>
    simp only [RDs] at hvs
    obtain ⟨v, r, rfl, ha, w, r2, rfl, hb, rfl⟩ := hvs
    refine ⟨v, w, rfl, P1 O _ I1 H1 ⟨fun _ h => .inl h, st1, ?_⟩ ((sr1.set_imm ha).set_imm hb)⟩
    exact fun k hk => (kp_set hj k hk).trans (kp_set hi k hk)
def sPar3 (i j k : Nat) (fr : SD) : SS := fun e => eB (fr e) fun l e1 => match l with | [a, b, c] => .nx (((e1.set i (.imm a)).set j (.imm b)).set k (.imm c)) | _ => .bad
theorem rdS_par3 {i j k : Nat} {fr : SD} (hi : i ∉ P) (hj : j ∉ P) (hk : k ∉ P) (h : rdS S P (sPar3 i j k fr) D σ H) : tPar3 i j k (rdD S fr) D σ H := by
  obtain ⟨O, I, env, sr, Q⟩ := h
  refine ⟨O, I, env, sr, (PostS.eb Q).imp fun l e1 I1 H1 st1 sr1 ⟨_, P1⟩ vs hvs => ?_⟩
  match l, hvs, P1 with
  | [], _, P1 => exact P1.elim
  | [_], _, P1 => exact P1.elim
  | [_, _], _, P1 => exact P1.elim
  | _ :: _ :: _ :: _ :: _, _, P1 => exact P1.elim
  | [a, b, c], hvs, P1 =>
    simp only [RDs] at hvs
    obtain ⟨v, r, rfl, ha, w, r2, rfl, hb, u, r3, rfl, hc, rfl⟩ := hvs
    refine ⟨v, w, u, rfl, P1 O _ I1 H1 ⟨fun _ h => .inl h, st1, ?_⟩ (((sr1.set_imm ha).set_imm hb).set_imm hc)⟩
    exact fun m hm => ((kp_set hk m hm).trans (kp_set hj m hm)).trans (kp_set hi m hm)

/-! ### targets -/
/-- tset: what the target does to the slots T -/
def TgOk (K : Fg) (T : List Nat) (t : TL.D → Env → Option Env) (g : TG) : Prop :=
  ∀ (O : Addr → Prop) (I H : Hp) (σ : L2.St) (env env' : Env) (d : TL.D) (v : V) (Q : L2.St → Hp → Prop), SR K O I H σ env → RD K I d v → t d env = some env' →
    (∀ σ', SR K O I H σ' env' → σ'.length = σ.length → (∀ j : Nat, j ∉ T → σ'[j]? = σ[j]?) → Q σ' H) → g v σ H Q
def tgN (i : Nat) : TL.D → Env → Option Env := fun d e => some (e.set i (.imm d))
theorem tgN_ok {K : Fg} {i : Nat} : TgOk K [i] (tgN i) (gName i) := fun O I H σ env env' d v Q sr r h k => by
  cases h
  exact k _ (sr.set_imm r) (by simp) fun j hj => List.getElem?_set_ne fun e => hj (by simp [e])
abbrev Tgs := List TL.D → Env → Option Env
def TgsOk (K : Fg) (T : List Nat) (t : Tgs) (g : TGs) : Prop :=
  ∀ (O : Addr → Prop) (I H : Hp) (σ : L2.St) (env env' : Env) (l : List TL.D) (vs : List V) (Q : L2.St → Hp → Prop), SR K O I H σ env → RDs K I l vs → t l env = some env' →
    (∀ σ', SR K O I H σ' env' → σ'.length = σ.length → (∀ j : Nat, j ∉ T → σ'[j]? = σ[j]?) → Q σ' H) → g vs σ H Q
def tgNil : Tgs := fun l e => match l with | [] => some e | _ => none
def tgCons (t : TL.D → Env → Option Env) (u : Tgs) : Tgs := fun l e => match l with | d :: r => (match t d e with | some e1 => u r e1 | none => none) | [] => none
def tgT (n : Nat) (u : Tgs) : TL.D → Env → Option Env := fun d e => match d with | .tup l => if l.length = n then u l e else none | _ => none
theorem tgNil_ok {K : Fg} : TgsOk K [] tgNil gNil := fun O I H σ env env' l vs Q sr r h k => by
  cases l with
  | nil =>
    cases h
    simp only [RDs] at r
    exact ⟨r, k σ sr rfl fun _ _ => rfl⟩
  | cons d l => cases h
theorem tgCons_ok {K : Fg} {T U : List Nat} {t : TL.D → Env → Option Env} {u : Tgs} {g : TG} {gs : TGs} (h1 : TgOk K T t g) (h2 : TgsOk K U u gs) : TgsOk K (T ++ U) (tgCons t u) (gCons g gs) := fun O I H σ env env' l vs Q sr r h k => by
  cases l with
  | nil => cases h
  | cons d l =>
    simp only [tgCons] at h
    cases q : t d env with
    | none => rw [q] at h; cases h
    | some e1 =>
      rw [q] at h
      simp only [RDs] at r
      obtain ⟨v, r', rfl, a, b⟩ := r
      refine ⟨v, r', rfl, h1 O I H σ env e1 d v _ sr a q fun σ1 sr1 l1 k1 => ?_⟩
      exact h2 O I H σ1 e1 env' l r' _ sr1 b h fun σ2 sr2 l2 k2 => k σ2 sr2 (l2.trans l1) fun j hj => (k2 j fun z => hj (List.mem_append_right _ z)).trans (k1 j fun z => hj (List.mem_append_left _ z))
theorem tgT_ok {K : Fg} {n : Nat} {T : List Nat} {u : Tgs} {gs : TGs} (h : TgsOk K T u gs) : TgOk K T (tgT n u) (gTup K n gs) := fun O I H σ env env' d v Q sr r e k => by
  cases d with
  | tup l =>
    simp only [tgT] at e
    split at e
    · rename_i hl
      simp only [RD] at r
      obtain ⟨p, vs, rfl, a, b⟩ := r
      exact ⟨p, vs, rfl, SqT.of (sr.ext _ _ a), by rw [b.len]; exact hl, h O I H σ env env' l vs Q sr b e k⟩
    · cases e
  | _ => cases e
/-- target = e -/
def sAsgT (t : TL.D → Env → Option Env) (f : SF) : SS := fun e => eB (f e) fun x e1 => eB (frz x e1) fun d e2 => match t d e2 with | some e3 => .nx e3 | none => .bad
theorem rdS_asgT {T : List Nat} {t : TL.D → Env → Option Env} {g : TG} {f : SF} (ht : TgOk S.K T t g) (hT : ∀ i ∈ P, i ∉ T) (h : rdS S P (sAsgT t f) D σ H) : tAsg (rd S f) g D σ H := by
  obtain ⟨O, I, env, sr, Q⟩ := h
  refine ⟨O, I, env, sr, (PostS.eb Q).imp fun x e1 I1 H1 st1 sr1 ⟨_, P1⟩ vx hx => ?_⟩
  cases q : frz x e1 with
  | bad => rw [q] at P1; exact P1.elim
  | ex c d e => cases x <;> cases q
  | ok d e2 =>
    obtain rfl := frz_env q
    obtain ⟨J, st, sr2, hd, le, _⟩ := frz_ok sr1 sr.oh st1 hx q
    rw [q, eB_ok] at P1
    cases q2 : t d e2 with
    | none => rw [q2] at P1; exact P1.elim
    | some e3 =>
      rw [q2] at P1
      exact ht O J H1 σ e2 e3 d vx _ sr2 hd q2 fun σ' sr' hl hk => P1 O σ' J H1 ⟨fun _ h => .inl h, st, fun i hi => hk i (hT i hi)⟩ sr'
end
end TL

set_option Elab.async false
set_option linter.all false
set_option autoImplicit false
set_option maxRecDepth 100000
set_option maxHeartbeats 4000000
namespace TL
open PySem PySem.Spec PyProof.Rows L2 RZ

/-! ## what is walked over -/
/-- the iterator gives the trees ds while all of I stands: as they stand, or as a new tuple of such -/
structure ItOk (K : Fg) (I : Hp) (J : It) (ds : List D) : Prop where
  goes : ∀ (i : Nat) (H : Hp), Le I H → i < ds.length → J.go i H
  stops : ∀ H : Hp, Le I H → J.stop ds.length H
  yields : ∀ (i : Nat) (H : Hp) (x : V) (H' : Hp) (d : D), Le I H → ds[i]? = some d → J.yld i H x H' →
    (H' = H ∧ RD K I d x) ∨ ∃ (T : Addr) (xs : List V) (l : List D), x = .ref T ∧ H T = none ∧ H' = upd H T (.tup xs) ∧ d = .tup l ∧ RDs K I l xs
theorem ItOk.mono {K : Fg} {I I' : Hp} {J : It} {ds : List D} (h : ItOk K I J ds) (e : Le I I') : ItOk K I' J ds :=
  ⟨fun i H l hi => h.goes i H (e.tr l) hi, fun H l => h.stops H (e.tr l), fun i H x H' d l hd y => (h.yields i H x H' d (e.tr l) hd y).elim (fun z => .inl ⟨z.1, RD.mono e z.2⟩) fun ⟨T, xs, l', a, b, c, f, g⟩ => .inr ⟨T, xs, l', a, b, c, f, RDs.mono e g⟩⟩
/-- the iterators of the rules that goes while G -/
theorem ItOk.of {K : Fg} {I : Hp} {J : It} {ds : List D} {n : Nat} {G : Hp → Prop} {Y : Nat → Hp → V → Hp → Prop} (w : Walk J n G Y) (hn : n = ds.length) (hG : ∀ H, Le I H → G H)
    (hY : ∀ (i : Nat) (H : Hp) (x : V) (H' : Hp) (d : D), Le I H → ds[i]? = some d → Y i H x H' → (H' = H ∧ RD K I d x) ∨ ∃ (T : Addr) (xs : List V) (l : List D), x = .ref T ∧ H T = none ∧ H' = upd H T (.tup xs) ∧ d = .tup l ∧ RDs K I l xs) : ItOk K I J ds := by
  subst hn
  exact ⟨fun i H l hi => w.goes i H hi (hG H l), fun H l => w.stops H (hG H l), fun i H x H' d l hd y => hY i H x H' d l hd (w.yields i H x H' (List.getElem?_eq_some_iff.mp hd).1 (hG H l) y)⟩
def rdI (S : Srd) (f : SD) : TI := fun σ H R => ∃ O I env, SR S.K O I H σ env ∧
  Post S O I H σ env (f env) fun ds _ I' H' => ∀ J, ItOk S.K I' J ds → R J H'

/-- the items of a tree -/
def itemsL : D → Option (List D)
  | .lst l => some l
  | .scr ns => some (ns.map .int)
  | _ => none
def itemsT : D → Option (List D)
  | .tup l => some l
  | _ => none
def itemsS : D → Option (List D)
  | .str s => some (s.map fun c => .str [c])
  | _ => none
def sIt (g : D → Option (List D)) (f : SF) : SD := fun e => (f e).bind fun x e1 => (frz x e1).bind fun d e2 => match g d with | some l => .ok l e2 | none => .bad
def sEnum (f : SF) : SD := fun e => (f e).bind fun x e1 => (frz x e1).bind fun d e2 => match itemsL d with | some l => .ok ((List.range l.length).zipWith (fun (i : Nat) d => .tup [.int i, d]) l) e2 | none => .bad
def sZip (f g : SF) : SD := fun e => (f e).bind fun x e1 => (frz x e1).bind fun d e2 => (g e2).bind fun y e3 => (frz y e3).bind fun d' e4 => match itemsL d, itemsL d' with | some l, some m => .ok (l.zipWith (fun a b => .tup [a, b]) m) e4 | _, _ => .bad
/-- a number that a range can hold -/
def inR (j : Int) : Bool := decide (-(2 ^ 62) ≤ j) && decide (j < 2 ^ 62)
theorem inR_iff {j : Int} : inR j = true ↔ -(2 ^ 62) ≤ j ∧ j < 2 ^ 62 := by
  unfold inR
  rw [Bool.and_eq_true, decide_eq_true_iff, decide_eq_true_iff]
def sRng1 (f : SF) : SD := fun e => (f e).bind fun x e1 => match x with | .imm (.int j) => if inR j = true then .ok ((List.range j.toNat).map fun (k : Nat) => .int k) e1 else .bad | _ => .bad
def sRng2 (f g : SF) : SD := fun e => (f e).bind fun x e1 => (g e1).bind fun y e2 => match x, y with | .imm (.int i), .imm (.int j) => if inR i = true ∧ inR j = true then .ok ((List.range (j - i).toNat).map fun (k : Nat) => .int (i + k)) e2 else .bad | _, _ => .bad
def sZipA (f g : SF) : SD := fun e => (f e).bind fun x e1 => (frz x e1).bind fun d e2 => (g e2).bind fun y e3 => (frz y e3).bind fun d' e4 => match itemsL d, itemsL d' with
  | some l, some m => .ok (l.zipWith (fun a b => .tup [a, b]) m) e4
  | _, _ => (match itemsT d, itemsT d' with | some l, some m => .ok (l.zipWith (fun a b => .tup [a, b]) m) e4 | _, _ => .bad)
theorem post_ok {α : Type} {S : Srd} {O : Addr → Prop} {I H I1 H1 : Hp} {σ : L2.St} {env e1 : Env} {a : α} {R : α → Env → Hp → Hp → Prop} (h : Post S O I H σ env (.ok a e1) R) (st : Stp O I H I1 H1) (sr : SR S.K O I1 H1 σ e1) : R a e1 I1 H1 := h I1 H1 st sr
section
variable {S : Srd} {O : Addr → Prop} {I H : Hp} {σ : L2.St} {env : Env} {R : It → Hp → Prop}
theorem RD.sqL {K : Fg} {I : Hp} {d : D} {l : List D} {v : V} (h : RD K I d v) (e : itemsL d = some l) : ∃ a xs, v = .ref a ∧ SqL K I a xs ∧ RDs K I l xs := by
  cases d <;> simp only [itemsL] at e <;> cases e
  · simp only [RD] at h
    obtain ⟨p, vs, rfl, a, b⟩ := h
    exact ⟨p, vs, rfl, SqL.of a, b⟩
  · simp only [RD] at h
    obtain ⟨p, rfl, a⟩ := h
    exact ⟨p, _, rfl, a, RDs.ints _⟩
/-- a value made a tree, its reading -/
theorem frzR {α : Type} {f : SF} {k : D → Env → Out α} {Q : α → Env → Hp → Hp → Prop} {T : V → Hp → Prop} (sr : SR S.K O I H σ env)
    (P : Post S O I H σ env ((f env).bind fun x e1 => (frz x e1).bind k) Q)
    (h : ∀ (d : D) (e1 : Env) (I1 H1 : Hp) (v : V), Stp O I H I1 H1 → SR S.K O I1 H1 σ e1 → RD S.K I1 d v → Post S O I1 H1 σ e1 (k d e1) Q → T v H1) : rd S f σ H T := by
  refine ⟨O, I, env, sr, (Post.bind' P).imp fun x e1 I1 H1 st1 sr1 P1 v hv => ?_⟩
  cases q : frz x e1 with
  | bad =>
    have P1 := P1 I1 st1 sr1
    rw [q] at P1; exact P1.elim
  | ex c d e => cases x <;> cases q
  | ok d e2 =>
    obtain rfl := frz_env q
    obtain ⟨J, st, sr2, hd, le, _⟩ := frz_ok sr1 sr.oh st1 hv q
    have P1 := P1 J st sr2
    rw [q, Out.bind_ok] at P1
    exact h d e2 J H1 v st sr2 hd P1
theorem rdI_list {f : SF} (h : rdI S (sIt itemsL f) σ H R) : iList S.K (rd S f) σ H R := by
  obtain ⟨O, I, env, sr, P⟩ := h
  refine frzR sr P fun d e1 I1 H1 v st1 sr1 hd P1 => ?_
  cases q : itemsL d with
  | none => simp only [q] at P1; exact P1.elim
  | some l =>
    simp only [q] at P1
    obtain ⟨a, xs, rfl, sq, r⟩ := hd.sqL q
    refine ⟨a, rfl, ⟨xs, sr1.ext.sqL sq⟩, P1 I1 H1 Stp.refl sr1 _ (ItOk.of walk_list r.len (fun H' l => l.sqL sq) fun i H' x H2 d l' hd y => ?_)⟩
    obtain ⟨d', h1, h2⟩ := r.get y.2
    rw [hd] at h1; cases h1
    exact .inl ⟨y.1, h2⟩
theorem rdI_tup {f : SF} (h : rdI S (sIt itemsT f) σ H R) : iTup S.K (rd S f) σ H R := by
  obtain ⟨O, I, env, sr, P⟩ := h
  refine frzR sr P fun d e1 I1 H1 v st1 sr1 hd P1 => ?_
  cases q : itemsT d with
  | none => simp only [q] at P1; exact P1.elim
  | some l =>
    simp only [q] at P1
    cases d <;> simp only [itemsT] at q <;> cases q
    simp only [RD] at hd
    obtain ⟨a, xs, rfl, sq, r⟩ := hd
    refine ⟨a, rfl, ⟨xs, SqT.of (sr1.ext _ _ sq)⟩, P1 I1 H1 Stp.refl sr1 _ (ItOk.of walk_tup r.len (fun H' l => SqT.of (l _ _ sq)) fun i H' x H2 d l' hd y => ?_)⟩
    obtain ⟨d', h1, h2⟩ := r.get y.2
    rw [hd] at h1; cases h1
    exact .inl ⟨y.1, h2⟩
theorem rdI_str {f : SF} (h : rdI S (sIt itemsS f) σ H R) : iStr (rd S f) σ H R := by
  obtain ⟨O, I, env, sr, P⟩ := h
  refine frzR sr P fun d e1 I1 H1 v st1 sr1 hd P1 => ?_
  cases q : itemsS d with
  | none => simp only [q] at P1; exact P1.elim
  | some l =>
    simp only [q] at P1
    cases d <;> simp only [itemsS] at q <;> cases q
    rename_i s
    simp only [RD] at hd
    refine ⟨_, hd, P1 I1 H1 Stp.refl sr1 _ (ItOk.of walk_str (by simp) (fun H' l => True.intro) fun i H' x H2 d l' hd y => ?_)⟩
    obtain ⟨e, c, hc, rfl⟩ := y
    refine .inl ⟨e, ?_⟩
    simp only [List.getElem?_map, Option.map_eq_some_iff] at hd
    obtain ⟨c', h1, rfl⟩ := hd
    have e2 : c = c' := by
      have : s[i]? = some c := by simpa using hc
      rw [h1] at this; exact (Option.some.inj this).symm
    subst e2
    simp only [RD]
theorem rdI_rng1 {f : SF} (h : rdI S (sRng1 f) σ H R) : iRng1 (tCons (rd S f) tNil) σ H R := by
  obtain ⟨O, I, env, sr, P⟩ := h
  refine ⟨O, I, env, sr, (Post.bind P).imp fun x e1 I1 H1 st1 sr1 P1 v hv => ?_⟩
  cases x with
  | cell l => exact P1.elim
  | deep t => exact P1.elim
  | view j => exact P1.elim
  | imm dk =>
    cases dk with
    | int j =>
      have hv : RD S.K I1 (.int j) v := hv
      simp only [RD] at hv; subst hv
      by_cases hj : inR j = true
      · simp only [hj, if_true] at P1
        have hj := inR_iff.mp hj
        refine ⟨j, rfl, hj.1, hj.2, P1 I1 H1 Stp.refl sr1 _ (ItOk.of walk_range (by simp) (fun H' l => True.intro) fun i H' x H2 d l' hd y => ?_)⟩
        obtain ⟨e, rfl⟩ := y
        refine .inl ⟨e, ?_⟩
        simp only [List.getElem?_map, Option.map_eq_some_iff] at hd
        obtain ⟨c', h1, rfl⟩ := hd
        rw [List.getElem?_range (by have := (List.getElem?_eq_some_iff.mp h1).1; simpa using this)] at h1
        cases h1
        simp only [RD, Int.zero_add]
      · simp only [hj, if_false] at P1; exact P1.elim
    | _ => exact P1.elim
theorem rdI_rng2 {f g : SF} (h : rdI S (sRng2 f g) σ H R) : iRng2 (tCons (rd S f) (tCons (rd S g) tNil)) σ H R := by
  obtain ⟨O, I, env, sr, P⟩ := h
  refine ⟨O, I, env, sr, (Post.bind P).imp fun x e1 I1 H1 st1 sr1 P1 v hv => ?_⟩
  refine ⟨O, I1, e1, sr1, (Post.bind P1).imp fun y e2 I2 H2 st2 sr2 P2 w hw => ?_⟩
  have hv := hv.step sr.oh st2
  cases x with
  | cell l => exact P2.elim
  | deep t => exact P2.elim
  | view j => exact P2.elim
  | imm dk =>
    cases dk with
    | int i =>
      cases y with
      | cell l => exact P2.elim
      | deep t => exact P2.elim
      | view j => exact P2.elim
      | imm dk =>
        cases dk with
        | int j =>
          have hv : RD S.K I2 (.int i) v := hv
          have hw : RD S.K I2 (.int j) w := hw
          simp only [RD] at hv hw; subst hv hw
          by_cases hj : inR i = true ∧ inR j = true
          · simp only [hj, and_self, if_true] at P2
            have hj : -(2 ^ 62) ≤ i ∧ i < 2 ^ 62 ∧ -(2 ^ 62) ≤ j ∧ j < 2 ^ 62 := ⟨(inR_iff.mp hj.1).1, (inR_iff.mp hj.1).2, inR_iff.mp hj.2⟩
            refine ⟨i, j, rfl, hj, P2 I2 H2 Stp.refl sr2 _ (ItOk.of walk_range (by simp) (fun H' l => True.intro) fun k H' x H2 d l' hd y => ?_)⟩
            obtain ⟨e, rfl⟩ := y
            refine .inl ⟨e, ?_⟩
            simp only [List.getElem?_map, Option.map_eq_some_iff] at hd
            obtain ⟨c', h1, rfl⟩ := hd
            rw [List.getElem?_range (by have := (List.getElem?_eq_some_iff.mp h1).1; simpa using this)] at h1
            cases h1
            simp only [RD]
          · simp only [hj, if_false] at P2; exact P2.elim
        | _ => exact P2.elim
    | _ => exact P2.elim
theorem rdI_enum {f : SF} (h : rdI S (sEnum f) σ H R) : iEnum S.K (tCons (rd S f) tNil) σ H R := by
  obtain ⟨O, I, env, sr, P⟩ := h
  refine frzR sr P fun d e1 I1 H1 v st1 sr1 hd P1 => ?_
  cases q : itemsL d with
  | none => simp only [q] at P1; exact P1.elim
  | some l =>
    simp only [q] at P1
    obtain ⟨a, xs, rfl, sq, r⟩ := hd.sqL q
    refine ⟨a, xs, rfl, sr1.ext.sqL sq, P1 I1 H1 Stp.refl sr1 _ (ItOk.of walk_enum (by simp [r.len]) (fun H' l => l.sqL sq) fun i H' x H2 d l' hd y => ?_)⟩
    obtain ⟨T, x', y', rfl, h2, rfl, h4, h5⟩ := y
    cases h4
    obtain ⟨d', g1, g2⟩ := r.get h5
    rw [List.getElem?_zipWith, List.getElem?_range (List.getElem?_eq_some_iff.mp g1).1, g1] at hd
    cases hd
    exact .inr ⟨T, _, _, rfl, h2, rfl, rfl, RDs.cons (by simp only [RD]) (RDs.cons g2 RDs.nil)⟩
theorem rdI_zip {f g : SF} (h : rdI S (sZip f g) σ H R) : iZip S.K (tCons (rd S f) (tCons (rd S g) tNil)) σ H R := by
  obtain ⟨O, I, env, sr, P⟩ := h
  refine frzR sr P fun d e1 I1 H1 v st1 sr1 hd P1 => ?_
  refine frzR sr1 P1 fun d' e2 I2 H2 w st2 sr2 hd' P2 => ?_
  have hd := hd.mono st2.ii
  cases q : itemsL d with
  | none => simp only [q] at P2; exact P2.elim
  | some l =>
    cases q' : itemsL d' with
    | none => simp only [q, q'] at P2; exact P2.elim
    | some m =>
      simp only [q, q'] at P2
      obtain ⟨a, xs, rfl, sq, r⟩ := hd.sqL q
      obtain ⟨b, ys, rfl, sq', r'⟩ := hd'.sqL q'
      refine ⟨a, b, xs, ys, rfl, sr2.ext.sqL sq, sr2.ext.sqL sq', P2 I2 H2 Stp.refl sr2 _ (ItOk.of (walk_zip rfl) (by simp [r.len, r'.len]) (fun H' l => ⟨l.sqL sq, l.sqL sq'⟩) fun i H' x H2 d l' hd y => ?_)⟩
      obtain ⟨T, x', y', rfl, h2, rfl, h4, h5⟩ := y
      obtain ⟨d1, g1, g2⟩ := r.get h4
      obtain ⟨d2, g3, g4⟩ := r'.get h5
      rw [List.getElem?_zipWith, g1, g3] at hd
      cases hd
      exact .inr ⟨T, _, _, rfl, h2, rfl, rfl, RDs.cons g2 (RDs.cons g4 RDs.nil)⟩
theorem RD.sqT {K : Fg} {I : Hp} {d : D} {l : List D} {v : V} (h : RD K I d v) (e : itemsT d = some l) : ∃ a xs, v = .ref a ∧ SqT K I a xs ∧ RDs K I l xs := by
  cases d <;> simp only [itemsT] at e <;> cases e
  simp only [RD] at h
  obtain ⟨p, vs, rfl, a, b⟩ := h
  exact ⟨p, vs, rfl, SqT.of a, b⟩
theorem walk_zipT {K : Fg} {a b : Addr} {xs ys : List V} {n : Nat} (hn : n = min xs.length ys.length) : Walk (ItzT K a b) n (fun H => SqT K H a xs ∧ SqT K H b ys) (YPair (fun i => xs[i]?) (fun i => ys[i]?)) := by
  subst hn
  refine ⟨fun i _ hi q => ?_, fun _ q => ⟨xs, ys, q.1, q.2, by omega⟩, fun i H v H' _ q y => ?_⟩
  · have h1 : i < xs.length := by omega
    have h2 : i < ys.length := by omega
    exact ⟨xs, ys, xs[i], ys[i], q.1, q.2, by simp [h1], by simp [h2]⟩
  · obtain ⟨T, x, z, h1, h2, h3, h4, h5⟩ := y
    exact ⟨T, x, z, h1, h2, h3, h4 xs q.1, h5 ys q.2⟩
theorem zipY {K : Fg} {I : Hp} {l m : List D} {xs ys : List V} (r : RDs K I l xs) (r' : RDs K I m ys) (i : Nat) (H : Hp) (x : V) (H' : Hp) (d : D) (hd : (l.zipWith (fun a b => D.tup [a, b]) m)[i]? = some d) (y : YPair (fun i => xs[i]?) (fun i => ys[i]?) i H x H') :
    (H' = H ∧ RD K I d x) ∨ ∃ (T : Addr) (xs : List V) (l : List D), x = .ref T ∧ H T = none ∧ H' = upd H T (.tup xs) ∧ d = .tup l ∧ RDs K I l xs := by
  obtain ⟨T, x', y', rfl, h2, rfl, h4, h5⟩ := y
  obtain ⟨d1, g1, g2⟩ := r.get h4
  obtain ⟨d2, g3, g4⟩ := r'.get h5
  rw [List.getElem?_zipWith, g1, g3] at hd
  cases hd
  exact .inr ⟨T, _, _, rfl, h2, rfl, rfl, RDs.cons g2 (RDs.cons g4 RDs.nil)⟩
theorem rdI_zipA {f g : SF} (h : rdI S (sZipA f g) σ H R) : iZipA S.K (tCons (rd S f) (tCons (rd S g) tNil)) σ H R := by
  obtain ⟨O, I, env, sr, P⟩ := h
  refine frzR sr P fun d e1 I1 H1 v st1 sr1 hd P1 => ?_
  refine frzR sr1 P1 fun d' e2 I2 H2 w st2 sr2 hd' P2 => ?_
  have hd := hd.mono st2.ii
  have tupCase : (match itemsT d, itemsT d' with | some l, some m => (Out.ok (l.zipWith (fun a b => D.tup [a, b]) m) e2 : Out (List D)) | _, _ => .bad) ≠ .bad →
      (∀ ds, (match itemsT d, itemsT d' with | some l, some m => (Out.ok (l.zipWith (fun a b => D.tup [a, b]) m) e2 : Out (List D)) | _, _ => .bad) = .ok ds e2 → ∀ J, ItOk S.K I2 J ds → R J H2) →
      ∃ a b xs ys, [v, w] = [.ref a, .ref b] ∧ ((SqL S.K H2 a xs ∧ SqL S.K H2 b ys ∧ R (Itz S.K a b) H2) ∨ (SqT S.K H2 a xs ∧ SqT S.K H2 b ys ∧ R (ItzT S.K a b) H2)) := fun nb k => by
    cases q : itemsT d with
    | none => simp only [q] at nb; exact absurd rfl nb
    | some l =>
      cases q' : itemsT d' with
      | none => simp only [q, q'] at nb; exact absurd rfl nb
      | some m =>
        obtain ⟨a, xs, rfl, sq, r⟩ := hd.sqT q
        obtain ⟨b, ys, rfl, sq', r'⟩ := hd'.sqT q'
        refine ⟨a, b, xs, ys, rfl, .inr ⟨sr2.ext.sqT sq, sr2.ext.sqT sq', k _ (by simp only [q, q']) _ (ItOk.of (walk_zipT rfl) (by simp [r.len, r'.len]) (fun H' l => ⟨l.sqT sq, l.sqT sq'⟩) fun i H' x H2 d l' hd y => zipY r r' i H' x H2 d hd y)⟩⟩
  have listCase : ∀ l m, itemsL d = some l → itemsL d' = some m → (∀ J, ItOk S.K I2 J (l.zipWith (fun a b => D.tup [a, b]) m) → R J H2) →
      ∃ a b xs ys, [v, w] = [.ref a, .ref b] ∧ ((SqL S.K H2 a xs ∧ SqL S.K H2 b ys ∧ R (Itz S.K a b) H2) ∨ (SqT S.K H2 a xs ∧ SqT S.K H2 b ys ∧ R (ItzT S.K a b) H2)) := fun l m q q' k => by
    obtain ⟨a, xs, rfl, sq, r⟩ := hd.sqL q
    obtain ⟨b, ys, rfl, sq', r'⟩ := hd'.sqL q'
    exact ⟨a, b, xs, ys, rfl, .inl ⟨sr2.ext.sqL sq, sr2.ext.sqL sq', k _ (ItOk.of (walk_zip rfl) (by simp [r.len, r'.len]) (fun H' l => ⟨l.sqL sq, l.sqL sq'⟩) fun i H' x H2 d l' hd y => zipY r r' i H' x H2 d hd y)⟩⟩
  cases q : itemsL d with
  | some l =>
    cases q' : itemsL d' with
    | some m =>
      simp only [q, q'] at P2
      exact listCase l m q q' fun J hJ => P2 I2 H2 Stp.refl sr2 J hJ
    | none =>
      simp only [q, q'] at P2
      refine tupCase (fun z => ?_) fun ds z => ?_
      · rw [z] at P2; exact P2.elim
      · rw [z] at P2; exact fun J hJ => P2 I2 H2 Stp.refl sr2 J hJ
  | none =>
    simp only [q] at P2
    refine tupCase (fun z => ?_) fun ds z => ?_
    · rw [z] at P2; exact P2.elim
    · rw [z] at P2; exact fun J hJ => P2 I2 H2 Stp.refl sr2 J hJ
end
end TL

set_option Elab.async false
set_option linter.all false
set_option autoImplicit false
set_option maxRecDepth 100000
set_option maxHeartbeats 4000000
namespace TL
open PySem PySem.Spec PyProof.Rows L2

/-! ## loops -/
def loopF (t : D → Env → Option Env) (b : SS) : List D → SS
  | [], e => .nx e
  | d :: ds, e => match t d e with
    | none => .bad
    | some e1 => match b e1 with
      | .nx e2 => loopF t b ds e2
      | .ct e2 => loopF t b ds e2
      | .bk e2 => .nx e2
      | o => o
def sFor (f : SD) (t : D → Env → Option Env) (b : SS) : SS := fun e => eB (f e) fun ds e1 => loopF t b ds e1
def whileF (c : SB) (b : SS) : Nat → SS
  | 0, _ => .bad
  | n + 1, e => eB (c e) fun k e1 => if k = true then (match b e1 with
      | .nx e2 => whileF c b n e2
      | .ct e2 => whileF c b n e2
      | .bk e2 => .nx e2
      | o => o) else .nx e1
def sWhile (n : Env → Nat) (c : SB) (b : SS) : SS := fun e => whileF c b (n e) e
section
variable {S : Srd} {P : List Nat} {O O1 : Addr → Prop} {I H I1 H1 : Hp} {σ σ1 : L2.St} {env : Env} {D D' : Ends} {o : SOut}
/-- an item has come -/
theorem item_sr {x : V} {H' : Hp} {d : TL.D} (sr : SR S.K O I H σ env) (h : (H' = H ∧ RD S.K I d x) ∨ ∃ (T : Addr) (xs : List V) (l : List TL.D), x = .ref T ∧ H T = none ∧ H' = upd H T (.tup xs) ∧ d = .tup l ∧ RDs S.K I l xs) :
    ∃ I', Stp O I H I' H' ∧ SR S.K O I' H' σ env ∧ RD S.K I' d x := by
  rcases h with ⟨rfl, r⟩ | ⟨T, xs, l, rfl, hT, rfl, rfl, r⟩
  · exact ⟨I, Stp.refl, sr, r⟩
  · refine ⟨upd I T (.tup xs), Stp.newI sr.ext hT, sr.newI hT, ?_⟩
    simp only [RD]
    exact ⟨T, xs, rfl, upd_same, RDs.mono (Le.new (none_of_le sr.ext hT)) r⟩
theorem rdS_for {T : List Nat} {f : SD} {t : TL.D → Env → Option Env} {b : SS} {g : TG} (ht : TgOk S.K T t g) (hT : ∀ i ∈ P, i ∉ T) (h : rdS S P (sFor f t b) D σ H) : tFor (rdI S f) g (rdS S P b) D σ H := by
  obtain ⟨O, I, env, sr, Q⟩ := h
  refine ⟨O, I, env, sr, (PostS.eb Q).imp fun ds e1 I1 H1 st1 sr1 ⟨_, P1⟩ J hJ => ?_⟩
  let Pv : Nat → L2.St → Hp → Prop := fun i σ' H' => ∃ O' I' e', SR S.K O' I' H' σ' e' ∧ Le I1 I' ∧ PostS S P O' I' H' σ' (loopF t b (ds.drop i) e') D
  refine ⟨fun i m σ' H' => m = ds.length - i ∧ i ≤ ds.length ∧ Pv i σ' H', ⟨ds.length, by simp, Nat.zero_le _, O, I1, e1, sr1, Le.rfl', PostS.step P1 (Way.of st1)⟩, ?_⟩
  rintro i m σ' H' ⟨rfl, hi, O', I', e', sr', le', P'⟩
  by_cases hlt : i < ds.length
  · refine .inr ⟨hJ.goes i H' (le'.tr sr'.ext) hlt, Pv (i + 1), fun σ2 H2 p => ⟨ds.length - (i + 1), by omega, rfl, hlt, p⟩, fun x H2 y => ?_⟩
    have hd : ds[i]? = some ds[i] := List.getElem?_eq_getElem hlt
    obtain ⟨I2, st2, sr2, r2⟩ := item_sr sr' (((hJ.mono le').yields i H' x H2 _ sr'.ext hd y))
    rw [List.drop_eq_getElem_cons hlt] at P'
    simp only [loopF] at P'
    cases q : t ds[i] e' with
    | none => rw [q] at P'; exact P'.elim
    | some e2 =>
      simp only [q] at P'
      refine ht O' I2 H2 σ' e' e2 ds[i] x _ sr2 r2 q fun σ3 sr3 len3 k3 => ⟨O', I2, e2, sr3, ?_⟩
      have w3 : Way P O' I' H' σ' O' I2 H2 σ3 := ⟨fun _ h => .inl h, st2, fun j hj => k3 j (hT j hj)⟩
      cases q2 : b e2 with
      | nx e3 => rw [q2] at P'; exact fun O4 σ4 I4 H4 w4 sr4 => ⟨O4, I4, e3, sr4, le'.tr (w3.tr w4).st.ii, PostS.step (show PostS S P O' I' H' σ' (loopF t b (ds.drop (i + 1)) e3) D from P') (w3.tr w4)⟩
      | ct e3 => rw [q2] at P'; exact fun O4 σ4 I4 H4 w4 sr4 => ⟨O4, I4, e3, sr4, le'.tr (w3.tr w4).st.ii, PostS.step (show PostS S P O' I' H' σ' (loopF t b (ds.drop (i + 1)) e3) D from P') (w3.tr w4)⟩
      | bk e3 => rw [q2] at P'; exact fun O4 σ4 I4 H4 w4 sr4 => P' O4 σ4 I4 H4 (w3.tr w4) sr4
      | rt v e3 => rw [q2] at P'; exact fun O4 σ4 I4 H4 w4 sr4 v hv => P' O4 σ4 I4 H4 (w3.tr w4) sr4 v (hv.from fun a z => w3.st.gone z)
      | ex c d e3 => rw [q2] at P'; exact fun O4 σ4 I4 H4 w4 sr4 dd v n z r => P' O4 σ4 I4 H4 (w3.tr w4) sr4 dd v (w3.st.gone n) z r
      | bad => rw [q2] at P'; exact P'.elim
  · have e : i = ds.length := by omega
    subst e
    rw [List.drop_length] at P'
    exact .inl ⟨hJ.stops H' (le'.tr sr'.ext), P' O' σ' I' H' Way.refl sr'⟩
theorem rdS_while {n : Env → Nat} {c : SB} {b : SS} (h : rdS S P (sWhile n c b) D σ H) : tWhile (rdT S c) (rdS S P b) D σ H := by
  obtain ⟨O, I, env, sr, Q⟩ := h
  refine ⟨fun m σ' H' => ∃ O' I' e', SR S.K O' I' H' σ' e' ∧ PostS S P O' I' H' σ' (whileF c b m e') D, ⟨n env, O, I, env, sr, Q⟩, ?_⟩
  rintro m σ' H' ⟨O', I', e', sr', P'⟩
  cases m with
  | zero => exact P'.elim
  | succ m =>
    simp only [whileF] at P'
    refine ⟨O', I', e', sr', (PostS.eb P').imp fun k e1 I1 H1 st1 sr1 ⟨_, P1⟩ => ?_⟩
    cases k with
    | false => exact P1 O' σ' I1 H1 (Way.of st1) sr1
    | true =>
      simp only [if_true] at P1 ⊢
      refine ⟨fun σ2 H2 => ∃ O' I' e', SR S.K O' I' H2 σ2 e' ∧ PostS S P O' I' H2 σ2 (whileF c b m e') D, fun σ2 H2 p => ⟨m, Nat.lt_succ_self m, p⟩, O', I1, e1, sr1, ?_⟩
      cases q2 : b e1 with
      | nx e3 => rw [q2] at P1; exact fun O4 σ4 I4 H4 w4 sr4 => ⟨O4, I4, e3, sr4, PostS.step (show PostS S P O' I' H' σ' (whileF c b m e3) D from P1) ((Way.of st1).tr w4)⟩
      | ct e3 => rw [q2] at P1; exact fun O4 σ4 I4 H4 w4 sr4 => ⟨O4, I4, e3, sr4, PostS.step (show PostS S P O' I' H' σ' (whileF c b m e3) D from P1) ((Way.of st1).tr w4)⟩
      | bk e3 => rw [q2] at P1; exact fun O4 σ4 I4 H4 w4 sr4 => P1 O4 σ4 I4 H4 ((Way.of st1).tr w4) sr4
      | rt v e3 => rw [q2] at P1; exact fun O4 σ4 I4 H4 w4 sr4 v hv => P1 O4 σ4 I4 H4 ((Way.of st1).tr w4) sr4 v (hv.from fun a z => st1.gone z)
      | ex c d e3 => rw [q2] at P1; exact fun O4 σ4 I4 H4 w4 sr4 dd v n z r => P1 O4 σ4 I4 H4 ((Way.of st1).tr w4) sr4 dd v (st1.gone n) z r
      | bad => rw [q2] at P1; exact P1.elim

/-! ## comprehensions -/
def wipeE (env : Env) : List Nat → Env
  | [] => env
  | v :: vs => (wipeE env vs).set v .non
/-- the block's own slots as they were -/
def restE (e0 env : Env) : List Nat → Env
  | [] => env
  | v :: vs => match e0[v]? with | some s => (restE e0 env vs).set v s | none => restE e0 env vs
def plainAt (env : Env) (v : Nat) : Bool := match env[v]? with | some (.own _) => false | some (.deep _) => false | _ => true
theorem wipeE_get {env : Env} {i : Nat} : ∀ {vs : List Nat}, (wipeE env vs)[i]? = if i ∈ vs then (if i < env.length then some .non else none) else env[i]?
  | [] => by simp [wipeE]
  | v :: vs => by
    have hl : (wipeE env vs).length = env.length := by
      clear wipeE_get
      induction vs with
      | nil => rfl
      | cons v vs ih => simp only [wipeE, List.length_set, ih]
    unfold wipeE
    by_cases h : v = i
    · subst h
      simp only [List.mem_cons, true_or, if_true]
      split
      · rename_i h; rw [List.getElem?_set_self (by rw [hl]; exact h)]
      · rename_i h; rw [List.getElem?_eq_none (by rw [List.length_set, hl]; omega)]
    · rw [List.getElem?_set_ne h, wipeE_get]
      have : i ∈ v :: vs ↔ i ∈ vs := by simp [show i ≠ v from fun e => h e.symm]
      simp only [this]
theorem wipeE_len {env : Env} : ∀ {vs : List Nat}, (wipeE env vs).length = env.length
  | [] => rfl
  | v :: vs => by unfold wipeE; rw [List.length_set, wipeE_len]
theorem restE_len {e0 env : Env} : ∀ {vs : List Nat}, (restE e0 env vs).length = env.length
  | [] => rfl
  | v :: vs => by
    unfold restE
    split
    · rw [List.length_set, restE_len]
    · exact restE_len
theorem restE_get {e0 env : Env} (hl : e0.length = env.length) {i : Nat} : ∀ {vs : List Nat}, (restE e0 env vs)[i]? = if i ∈ vs then e0[i]? else env[i]?
  | [] => by simp [restE]
  | v :: vs => by
    unfold restE
    by_cases h : v = i
    · subst h
      simp only [List.mem_cons, true_or, if_true]
      split
      · rename_i s hs; rw [List.getElem?_set_self (by rw [restE_len, ← hl]; exact (List.getElem?_eq_some_iff.mp hs).1), hs]
      · rename_i hs
        rw [hs, List.getElem?_eq_none]
        rw [restE_len, ← hl]
        exact List.getElem?_eq_none_iff.mp hs
    · have : i ∈ v :: vs ↔ i ∈ vs := by simp [show i ≠ v from fun e => h e.symm]
      simp only [this]
      split
      · rw [List.getElem?_set_ne h, restE_get hl]
      · exact restE_get hl
theorem wipe_get {σ : L2.St} {i : Nat} : ∀ {vs : List Nat}, i ∉ vs → (wipe σ vs)[i]? = σ[i]?
  | [], _ => rfl
  | v :: vs, h => by
    have h1 : v ≠ i := fun e => h (by rw [e]; exact List.mem_cons_self)
    unfold wipe
    rw [List.getElem?_set_ne h1]
    exact wipe_get fun m => h (List.mem_cons_of_mem _ m)
theorem wipe_at {σ : L2.St} {i : Nat} : ∀ {vs : List Nat}, i ∈ vs → (L2.wipe σ vs)[i]? = if i < σ.length then some none else none
  | [], h => nomatch h
  | v :: vs, h => by
    unfold L2.wipe
    by_cases e : v = i
    · subst e
      split
      · rw [List.getElem?_set_self (by rw [wipe_length]; assumption)]
      · rw [List.getElem?_eq_none (by rw [List.length_set, wipe_length]; omega)]
    · rw [List.getElem?_set_ne e]
      exact wipe_at (by simpa [show i ≠ v from fun z => e z.symm] using h)
theorem wipe_eq {σ τ : L2.St} {vs : List Nat} (hl : σ.length = τ.length) (h : ∀ i, i ∉ vs → σ[i]? = τ[i]?) : L2.wipe σ vs = L2.wipe τ vs := by
  apply List.ext_getElem?
  intro j
  by_cases hj : j ∈ vs
  · rw [wipe_at hj, wipe_at hj, hl]
  · rw [wipe_get hj, wipe_get hj, h j hj]
/-- the slots forgotten -/
theorem SR.wipe {K : Fg} {vs : List Nat} (sr : SR K O I H σ env) (hp : vs.all (plainAt env) = true) : SR K O I H (L2.wipe σ vs) (wipeE env vs) := by
  have get : ∀ {i : Nat} {s : Sl}, (wipeE env vs)[i]? = some s → s ≠ .non → i ∉ vs ∧ env[i]? = some s := fun {i s} h n => by
    rw [wipeE_get] at h
    split at h
    · split at h
      · cases h; exact absurd rfl n
      · cases h
    · rename_i h'; exact ⟨h', h⟩
  obtain ⟨F, fp⟩ := sr.fp
  refine ⟨by rw [wipeE_len, wipe_length]; exact sr.len, sr.ext, sr.oh, fun i d h => ?_, F, fp.fo, fp.nd, fp.dj, fun i l h => ?_, fun i t h => ?_⟩
  · obtain ⟨h1, h2⟩ := get h (by simp)
    rw [wipe_get h1]; exact sr.imm i d h2
  · obtain ⟨h1, h2⟩ := get h (by simp)
    rw [wipe_get h1]; exact fp.own i l h2
  · obtain ⟨h1, h2⟩ := get h (by simp)
    rw [wipe_get h1]; exact fp.deep i t h2
/-- and as they were again -/
theorem SR.rest {K : Fg} {vs : List Nat} {σ0 : L2.St} {e0 : Env} {O0 : Addr → Prop} {I0 H0 : Hp} (sr0 : SR K O0 I0 H0 σ0 e0) (hp : vs.all (plainAt e0) = true) (ii : Le I0 I) (sr : SR K O I H σ env) (hw : L2.wipe σ vs = L2.wipe σ0 vs) : SR K O I H σ0 (restE e0 env vs) := by
  have hs : ∀ i, i ∉ vs → σ0[i]? = σ[i]? := fun i hi => by rw [← wipe_get hi, ← hw, wipe_get hi]
  have hl : σ0.length = σ.length := by rw [← wipe_length σ0 vs, ← hw, wipe_length]
  have le : e0.length = env.length := by rw [sr0.len, sr.len, hl]
  have pl : ∀ i ∈ vs, ∀ s, e0[i]? = some s → (∀ l, s ≠ .own l) ∧ ∀ t, s ≠ .deep t := fun i hi s h => by
    have := List.all_eq_true.mp hp i hi
    unfold plainAt at this
    rw [h] at this
    exact ⟨fun l z => by subst z; simp at this, fun t z => by subst z; simp at this⟩
  obtain ⟨F, fp⟩ := sr.fp
  refine ⟨by rw [restE_len, sr.len, hl], sr.ext, sr.oh, fun i d h => ?_, F, fp.fo, fp.nd, fp.dj, fun i l h => ?_, fun i t h => ?_⟩
  · rw [restE_get le] at h
    split at h
    · obtain ⟨v, a, b⟩ := sr0.imm i d h; exact ⟨v, a, RD.mono ii b⟩
    · rename_i n; rw [hs i n]; exact sr.imm i d h
  · rw [restE_get le] at h
    split at h
    · rename_i m; exact absurd rfl ((pl i m _ h).1 l)
    · rename_i n; rw [hs i n]; exact fp.own i l h
  · rw [restE_get le] at h
    split at h
    · rename_i m; exact absurd rfl ((pl i m _ h).2 t)
    · rename_i n; rw [hs i n]; exact fp.deep i t h
/-- one turn: none: bad; some: the item, if any, and the slots -/
def compL (vs : List Nat) (t : TL.D → Env → Option Env) (c : SB) (f : SF) : List TL.D → Env → List TL.D → Out (List TL.D)
  | [], e, acc => .ok acc e
  | d :: ds, e, acc => match t d (wipeE e vs) with
    | none => .bad
    | some e1 => match c e1 with
      | .ok false e2 => compL vs t c f ds (restE e e2 vs) acc
      | .ok true e2 => (match f e2 with
        | .ok x e3 => (match frz x e3 with
          | .ok y e4 => if acc.length < lim then compL vs t c f ds (restE e e4 vs) (acc ++ [y]) else .bad
          | _ => .bad)
        | _ => .bad)
      | _ => .bad
def sLc (vs : List Nat) (g : SD) (t : TL.D → Env → Option Env) (c : SB) (f : SF) : SF := fun e => (g e).bind fun ds e1 => if vs.all (plainAt e1) = true then (compL vs t c f ds e1 []).bind fun l e2 => .ok (.cell l) e2 else .bad
def bYes : SB := fun e => .ok true e
theorem rdT_yes {Q : Bool → Hp → Prop} (h : rdT S bYes σ H Q) : tYes σ H Q := by
  obtain ⟨O, I, env, sr, P⟩ := h
  exact P I H Stp.refl sr
theorem compL_plain {vs : List Nat} {e e1 : Env} (hl : e.length = e1.length) (h : vs.all (plainAt e) = true) : vs.all (plainAt (restE e e1 vs)) = true := by
  rw [List.all_eq_true] at h ⊢
  intro v hv
  have := h v hv
  unfold plainAt at this ⊢
  rw [restE_get hl, if_pos hv]
  exact this
/-- the base of a comprehension: its list at p is new since then -/
theorem Stp.over {p : Addr} {u : HO} {I' H' : Hp} (st : Stp O I H I' H') (hp : H p = none) : Stp O I H I' (upd H' p u) :=
  ⟨st.ii, fun a o n e => by rw [upd_ne (fun z : a = p => by rw [z, hp] at e; cases e)]; exact st.hh a o n e, fun a n => by
    by_cases z : a = p
    · rw [z, upd_same]; simp
    · rw [upd_ne z]; exact st.nn a n, st.fr⟩
theorem SR.over {K : Fg} {p : Addr} {u : HO} (sr : SR K O I H σ env) (hO : ¬ O p) (hI : I p = none) : SR K O I (upd H p u) σ env := by
  have le : Le I (upd H p u) := fun a o e => by rw [upd_ne (fun z : a = p => by rw [z, hI] at e; cases e)]; exact sr.ext a o e
  obtain ⟨F, fp⟩ := sr.fp
  have ne : ∀ i a, a ∈ F i → a ≠ p := fun i a h z => hO (z ▸ (fp.fo i a h).1)
  refine ⟨sr.len, le, fun a h => by rw [upd_ne (fun z : a = p => hO (z ▸ h))]; exact sr.oh a h, sr.imm, F, fp.fo, fp.nd, fp.dj, fun i l h => ?_, fun i t h => ?_⟩
  · obtain ⟨q, ws, a, b, c, r⟩ := fp.own i l h
    exact ⟨q, ws, a, b, by rw [upd_ne (ne i q (by rw [b]; simp))]; exact c, r⟩
  · obtain ⟨v, a, r⟩ := fp.deep i t h
    exact ⟨v, a, RO.mono Le.rfl' r fun q o hq hi ho => ⟨hi, by rw [upd_ne (ne i q hq)]; exact ho⟩⟩
/-- nothing may be raised -/
def Srd.q (S : Srd) : Srd := ⟨S.K, S.ca, fun _ _ _ _ => False⟩
theorem rd_lc {T vs : List Nat} {g : SD} {t : TL.D → Env → Option Env} {c : SB} {f : SF} {gt : TG} {Q : VK} (ht : TgOk S.K T t gt) (hT : ∀ i ∈ T, i ∈ vs) (h : rd S (sLc vs g t c f) σ H Q) : tLc (rdI S g) gt (rdT S.q c) (rd S.q f) vs σ H Q := by
  obtain ⟨O, I, env, sr, P⟩ := h
  refine ⟨O, I, env, sr, (Post.bind P).imp fun ds e1 I1 H1 st1 sr1 P1 J hJ D hD => ?_⟩
  by_cases hpl : vs.all (plainAt e1) = true
  case neg => simp only [hpl, if_false] at P1; exact P1.elim
  simp only [hpl, if_true] at P1
  have hOD : ¬ O D := fun z => sr1.oh D z hD
  let Pv : Nat → Hp → Prop := fun i H' => ∃ I' e' acc vacc, Stp O I1 H1 I' H' ∧ SR S.K O I' H' σ e' ∧ vs.all (plainAt e') = true ∧ H' D = some (.lst vacc) ∧ I' D = none ∧ RDs S.K I' acc vacc ∧
    Post S O I1 H1 σ e' ((compL vs t c f (ds.drop i) e' acc).bind fun l e2 => .ok (.cell l) e2) fun vl env' I' H' => ∀ v, VR S.K H I' H' σ vl v → Q v H'
  refine ⟨fun i m H' => m = ds.length - i ∧ i ≤ ds.length ∧ Pv i H', ⟨ds.length, by simp, Nat.zero_le _, I1, e1, [], [], Stp.newH hD, sr1.newH hD, hpl, upd_same, none_of_le sr1.ext hD, RDs.nil, P1⟩, ?_⟩
  rintro i m H' ⟨rfl, hi, I', e', acc, vacc, st', sr', pl', hH', hI', ra, P'⟩
  by_cases hlt : i < ds.length
  · refine .inr ⟨hJ.goes i H' (st'.ii.tr sr'.ext) hlt, Pv (i + 1), fun H2 p => ⟨ds.length - (i + 1), by omega, rfl, hlt, p⟩, fun x H2 y => ?_⟩
    have hd : ds[i]? = some ds[i] := List.getElem?_eq_getElem hlt
    rw [List.drop_eq_getElem_cons hlt] at P'
    simp only [compL] at P'
    have srw := sr'.wipe pl'
    obtain ⟨I2, st2, sr2, r2⟩ := item_sr srw ((hJ.mono st'.ii).yields i H' x H2 _ sr'.ext hd y)
    cases q : t ds[i] (wipeE e' vs) with
    | none => simp only [q] at P'; exact P'.elim
    | some e2 =>
      simp only [q] at P'
      refine ht O I2 H2 _ _ e2 ds[i] x _ sr2 r2 q fun σ3 sr3 len3 k3 => ?_
      have hw : L2.wipe σ3 vs = L2.wipe σ vs := wipe_eq (by rw [len3, wipe_length]) fun j hj => by rw [k3 j (fun z => hj (hT j z)), wipe_get hj]
      refine ⟨hw, O, I2, e2, sr3, ?_⟩
      -- the test
      have back : ∀ {I5 H5 : Hp} {e5 : Env}, Stp O I2 H2 I5 H5 → SR S.K O I5 H5 σ3 e5 → Stp O I1 H1 I5 H5 ∧ SR S.K O I5 H5 σ (restE e' e5 vs) ∧ vs.all (plainAt (restE e' e5 vs)) = true ∧ H5 D = some (.lst vacc) ∧ I5 D = none ∧ RDs S.K I5 acc vacc := fun {I5 H5 e5} st5 sr5 => by
        have s25 : Stp O I' H' I5 H5 := st2.tr st5
        refine ⟨st'.tr s25, sr'.rest pl' s25.ii sr5 hw, compL_plain ?_ pl', s25.hh D _ hOD hH', s25.fr D hOD hI' (by rw [hH']; simp), ra.mono s25.ii⟩
        rw [sr'.len, sr5.len, len3, wipe_length]
      cases qc : c e2 with
      | bad => simp only [qc] at P'; exact P'.elim
      | ex c d e => simp only [qc] at P'; exact P'.elim
      | ok b e3 =>
        intro I3 H3 st3 sr3'
        cases b with
        | false =>
          simp only [qc] at P'
          obtain ⟨b1, b2, b3, b4, b5, b6⟩ := back st3 sr3'
          simp only [Bool.false_eq_true, if_false]
          exact ⟨I3, _, acc, vacc, b1, b2, b3, b4, b5, b6, P'⟩
        | true =>
          simp only [qc] at P'
          simp only [if_true]
          refine ⟨O, I3, e3, sr3', ?_⟩
          cases qf : f e3 with
          | bad => simp only [qf] at P'; exact P'.elim
          | ex c d e => simp only [qf] at P'; exact P'.elim
          | ok x e4 =>
            simp only [qf] at P'
            intro I4 H4 st4 sr4 vx hx
            cases qz : frz x e4 with
            | bad => simp only [qz] at P'; exact P'.elim
            | ex c d e => simp only [qz] at P'; exact P'.elim
            | ok y e5 =>
              obtain rfl := frz_env qz
              obtain ⟨I5, st5, sr5, r5, le5, _⟩ := frz_ok sr4 sr3'.oh st4 hx qz
              simp only [qz] at P'
              obtain ⟨b1, b2, b3, b4, b5, b6⟩ := back (st3.tr st5) sr5
              by_cases hz : acc.length < lim
              · simp only [hz, if_true] at P'
                refine ⟨vacc, b4, by rw [b6.len, lim_eq]; exact hz, I5, _, acc ++ [y], vacc ++ [vx], b1.over hD, b2.over hOD b5, b3, upd_same, b5, b6.app (RDs.cons r5 RDs.nil), P'⟩
              · simp only [hz, if_false] at P'; exact P'.elim
  · have e : i = ds.length := by omega
    subst e
    rw [List.drop_length] at P'
    refine .inl ⟨hJ.stops H' (st'.ii.tr sr'.ext), P' I' H' st' sr' (.ref D) ⟨D, vacc, rfl, st1.gone hD, hI', hH', ra⟩⟩
end
end TL

set_option Elab.async false
set_option linter.all false
set_option autoImplicit false
set_option maxRecDepth 100000
set_option maxHeartbeats 4000000
namespace TL
open PySem PySem.Spec PyProof.Rows L2

/-! ## defs -/
inductive FO where | ret (v : Val) | ex (c : Str) (d : D) | bad
inductive FG where | ret (v : Val) (l : List D) | ex (c : Str) (d : D) (l : List D) | bad
def clo (v : Val) (e : Env) : Option Val := match v with
  | .view i => match e[i]? with | some (.own l) => some (.cell l) | some (.deep t) => some (.deep t) | _ => none
  | v => some v
def FO.of : SOut → FO
  | .nx _ => .ret (.imm .non)
  | .rt v e => match clo v e with | some w => .ret w | none => .bad
  | .ex c d _ => .ex c d
  | _ => .bad
def own0 (e : Env) : Option (List D) := match e[(0 : Nat)]? with | some (.own l) => some l | _ => none
def FG.of : SOut → FG
  | .nx e => match own0 e with | some l => .ret (.imm .non) l | none => .bad
  | .rt v e => match v with
    | .view 0 => .bad
    | v => match clo v e, own0 e with | some w, some l => .ret w l | _, _ => .bad
  | .ex c d e => match own0 e with | some l => .ex c d l | none => .bad
  | _ => .bad
def runP (n : Nat) (b : SS) : List D → FO := fun ds => FO.of (b (ds.map .imm ++ List.replicate (n - ds.length) .non))
def runG (n : Nat) (b : SS) : List D → List D → FG := fun l ds => FG.of (b (.own l :: (ds.map .imm ++ List.replicate (n - (ds.length + 1)) .non)))

abbrev CaT := Str → Addr
def spP (K : Fg) (ca : CaT) (n : Nat) (sem : List D → FO) : Sp := fun vs H Q E => vs.length = n ∧ ∃ I ds, Le I H ∧ RDs K I ds vs ∧ match sem ds with
  | .ret vl => ∀ I' H' v, Stp (fun _ => False) I H I' H' → Le I' H' → VR K H I' H' [] vl v → Q v H'
  | .ex c d => ∀ dd v I' H', Stp (fun _ => False) I H I' H' → Le I' H' → H dd = none → H' dd = some (.xd [(("value" : Str), v)]) → RD K I' d v → E (.ref (ca c)) (some dd) H'
  | .bad => False
def spG (K : Fg) (ca : CaT) (n : Nat) (sem : List D → List D → FG) : Sp := fun vs H Q E => vs.length = n ∧ ∃ I p l ws ds us, Le I H ∧ vs = .ref p :: us ∧ I p = none ∧ H p = some (.lst ws) ∧ RDs K I l ws ∧ RDs K I ds us ∧ match sem l ds with
  | .ret vl l' => ∀ I' H' v ws', Stp (fun a => a = p) I H I' H' → Le I' H' → I' p = none → H' p = some (.lst ws') → RDs K I' l' ws' → VR K H I' H' [] vl v → Q v H'
  | .ex c d l' => ∀ dd v I' H' ws', Stp (fun a => a = p) I H I' H' → Le I' H' → I' p = none → H' p = some (.lst ws') → RDs K I' l' ws' → H dd = none → H' dd = some (.xd [(("value" : Str), v)]) → RD K I' d v → E (.ref (ca c)) (some dd) H'
  | .bad => False
abbrev srdE (K : Fg) (ca : CaT) (E : XK) : Srd := ⟨K, ca, fun c d _ H => E c d H⟩

/-! ### a body keeps the promise -/
theorem VR.slots {K : Fg} {Hs I H : Hp} {σ τ : L2.St} {vl : Val} {v : V} (h : VR K Hs I H σ vl v) (n : ∀ i, vl ≠ .view i) : VR K Hs I H τ vl v := by
  cases vl with
  | view i => exact absurd rfl (n i)
  | _ => exact h
theorem start_get {N : List Str} {vs : List V} {i : Nat} : (L2.start N vs)[i]? = if i < vs.length then (vs[i]?).map some else if i < vs.length + (N.length - vs.length) then some none else none := by
  unfold L2.start
  by_cases h : i < vs.length
  · rw [if_pos h, List.getElem?_append_left (by simpa using h), List.getElem?_map]
  · rw [if_neg h, List.getElem?_append_right (by simpa using h), List.getElem?_replicate]
    simp only [List.length_map]
    by_cases h2 : i - vs.length < N.length - vs.length
    · rw [if_pos h2, if_pos (by omega)]
    · rw [if_neg h2, if_neg (by omega)]
theorem envP_get {ds : List D} {m i : Nat} {s : Sl} (h : (ds.map Sl.imm ++ List.replicate m .non)[i]? = some s) : (∃ d, s = .imm d ∧ ds[i]? = some d) ∨ s = .non := by
  by_cases hi : i < ds.length
  · rw [List.getElem?_append_left (by simpa using hi), List.getElem?_map] at h
    obtain ⟨d, h1, rfl⟩ := Option.map_eq_some_iff.mp h
    exact .inl ⟨d, rfl, h1⟩
  · rw [List.getElem?_append_right (by simpa using hi), List.getElem?_replicate] at h
    split at h
    · cases h; exact .inr rfl
    · cases h
theorem sr_startP {K : Fg} {N : List Str} {I H : Hp} {ds : List D} {vs : List V} (le : Le I H) (r : RDs K I ds vs) : SR K (fun _ => False) I H (L2.start N vs) (ds.map Sl.imm ++ List.replicate (N.length - ds.length) .non) := by
  refine ⟨?_, le, fun _ h => h.elim, fun i d h => ?_, ⟨fun _ => [], ⟨fun _ _ h => (nomatch h), fun _ => List.nodup_nil, fun _ _ _ h => (nomatch h), fun i l h => ?_, fun i t h => ?_⟩⟩⟩
  · unfold L2.start
    simp only [List.length_append, List.length_map, List.length_replicate, r.len]
  · rcases envP_get h with ⟨d', e, h1⟩ | e <;> cases e
    obtain ⟨v, h2, h3⟩ := r.get' h1
    refine ⟨v, ?_, h3⟩
    rw [start_get, if_pos (List.getElem?_eq_some_iff.mp h2).1, h2]; rfl
  · rcases envP_get h with ⟨d', e, h1⟩ | e <;> cases e
  · rcases envP_get h with ⟨d', e, h1⟩ | e <;> cases e
/-- what is returned, closed -/
theorem clo_ok {K : Fg} {O : Addr → Prop} {Hs I H : Hp} {σ : L2.St} {env : Env} {vl w : Val} {v : V} (sr : SR K O I H σ env) (h : VR K Hs I H σ vl v) (e : clo vl env = some w) (hO : ∀ i F, Fp K O I H σ env F → vl = .view i → ∀ a ∈ F i, Hs a = none) : VR K Hs I H [] w v := by
  cases vl with
  | imm d => cases e; exact h
  | cell l => cases e; exact h
  | deep t => cases e; exact h
  | view i =>
    have h : σ[i]? = some (some v) := h
    obtain ⟨F, fp⟩ := sr.fp
    simp only [clo] at e
    cases q : env[i]? with
    | none => rw [q] at e; cases e
    | some s =>
      rw [q] at e
      cases s with
      | non => cases e
      | imm d => cases e
      | own l =>
        cases e
        obtain ⟨p, vs, a, b, c, r⟩ := fp.own i l q
        rw [h] at a; cases a
        have hp : p ∈ F i := by rw [b]; simp
        exact ⟨p, vs, rfl, hO i F fp rfl p hp, (fp.fo i p hp).2, c, r⟩
      | deep t =>
        cases e
        obtain ⟨w, a, r⟩ := fp.deep i t q
        rw [h] at a; cases a
        exact ⟨F i, r, fp.nd i, fun a ha => hO i F fp rfl a ha⟩
theorem Stp.ofWay {P : List Nat} {O O' : Addr → Prop} {I H I' H' : Hp} {σ σ' : L2.St} (w : Way P O I H σ O' I' H' σ') : Stp O I H I' H' := w.st
theorem body_P {K : Fg} {ca : CaT} {N : List Str} {b : SS} {n : Nat} {vs : List V} {H : Hp} {Q : VK} {E : XK} (h : spP K ca n (runP N.length b) vs H Q E) : rdS (srdE K ca E) [] b { nx := fun _ H' => Q .non H', rt := Q } (L2.start N vs) H := by
  obtain ⟨_, I, ds, le, r, h⟩ := h
  refine ⟨_, I, _, sr_startP le r, ?_⟩
  simp only [runP] at h
  cases q : b (ds.map Sl.imm ++ List.replicate (N.length - ds.length) .non) with
  | bad => rw [q] at h; exact h.elim
  | bk e => rw [q] at h; exact h.elim
  | ct e => rw [q] at h; exact h.elim
  | nx e =>
    rw [q] at h
    exact fun O' σ' I' H' w sr => h I' H' .non w.st sr.ext (show RD K I' .non _ by simp only [RD])
  | ex c d e =>
    rw [q] at h
    exact fun O' σ' I' H' w sr dd v n z r => h dd v I' H' w.st sr.ext n z r
  | rt vl e =>
    rw [q] at h
    simp only [FO.of] at h
    cases qc : clo vl e with
    | none => rw [qc] at h; exact h.elim
    | some wl =>
      rw [qc] at h
      refine fun O' σ' I' H' w sr v hv => h I' H' v w.st sr.ext (clo_ok sr hv qc fun i F fp _ a ha => ?_)
      rcases w.ex a (fp.fo i a ha).1 with z | z
      · exact z.elim
      · exact z
theorem own0_at {e : Env} {l : List D} (h : own0 e = some l) : e[0]? = some (.own l) := by
  unfold own0 at h
  split at h
  · cases h; assumption
  · cases h
theorem envG_get {l0 : List D} {ds : List D} {m i : Nat} {s : Sl} (h : (Sl.own l0 :: (ds.map Sl.imm ++ List.replicate m .non))[i]? = some s) : (i = 0 ∧ s = .own l0) ∨ (∃ j d, i = j + 1 ∧ s = .imm d ∧ ds[j]? = some d) ∨ s = .non := by
  cases i with
  | zero => simp at h; exact .inl ⟨rfl, h.symm⟩
  | succ j =>
    rw [List.getElem?_cons_succ] at h
    rcases envP_get h with ⟨d, e, h1⟩ | e
    · exact .inr (.inl ⟨j, d, rfl, e, h1⟩)
    · exact .inr (.inr e)
theorem sr_startG {K : Fg} {N : List Str} {I H : Hp} {l ds : List D} {us ws : List V} {p : Addr} (le : Le I H) (hI : I p = none) (hH : H p = some (.lst ws)) (rl : RDs K I l ws) (r : RDs K I ds us) (hN : us.length + 1 ≤ N.length) : SR K (fun a => a = p) I H (L2.start N (.ref p :: us)) (.own l :: (ds.map Sl.imm ++ List.replicate (N.length - (ds.length + 1)) .non)) := by
  have g0 : (L2.start N (.ref p :: us))[0]? = some (some (.ref p)) := by rw [start_get]; simp
  refine ⟨?_, le, fun a h => by rw [h, hH]; simp, fun i d h => ?_, fun i => if i = 0 then [p] else [], fun i a h => ?_, fun i => ?_, fun i j a h1 h2 => ?_, fun i l' h => ?_, fun i t h => ?_⟩
  · unfold L2.start
    simp only [List.length_append, List.length_map, List.length_replicate, List.length_cons, r.len]
    omega
  · rcases envG_get h with ⟨_, e⟩ | ⟨j, d', rfl, e, h1⟩ | e <;> cases e
    obtain ⟨v, h2, h3⟩ := r.get' h1
    refine ⟨v, ?_, h3⟩
    rw [start_get, if_pos (by have := (List.getElem?_eq_some_iff.mp h2).1; simp; omega)]
    simp [h2]
  · split at h
    · rw [List.mem_singleton] at h; exact ⟨h, by rw [h]; exact hI⟩
    · cases h
  · split <;> simp
  · split at h1
    · split at h2
      · omega
      · cases h2
    · cases h1
  · rcases envG_get h with ⟨rfl, e⟩ | ⟨j, d', rfl, e, h1⟩ | e <;> cases e
    exact ⟨p, ws, g0, rfl, hH, rl⟩
  · rcases envG_get h with ⟨rfl, e⟩ | ⟨j, d', rfl, e, h1⟩ | e <;> cases e
theorem body_G {K : Fg} {ca : CaT} {N : List Str} {b : SS} {n : Nat} {vs : List V} {H : Hp} {Q : VK} {E : XK} (hn : n ≤ N.length) (h : spG K ca n (runG N.length b) vs H Q E) : rdS (srdE K ca E) [0] b { nx := fun _ H' => Q .non H', rt := Q } (L2.start N vs) H := by
  obtain ⟨hl, I, p, l, ws, ds, us, le, rfl, hI, hH, rl, r, h⟩ := h
  have g0 : (L2.start N (.ref p :: us))[0]? = some (some (.ref p)) := by rw [start_get]; simp
  refine ⟨_, I, _, sr_startG le hI hH rl r (by simp at hl; omega), ?_⟩
  simp only [runG] at h
  have fin : ∀ {O' : Addr → Prop} {σ' : L2.St} {I' H' : Hp} {e : Env} {l' : List D}, Way [0] (fun a => a = p) I H (L2.start N (.ref p :: us)) O' I' H' σ' → SR K O' I' H' σ' e → own0 e = some l' → ∃ ws', I' p = none ∧ H' p = some (.lst ws') ∧ RDs K I' l' ws' ∧ ∀ F, Fp K O' I' H' σ' e F → F 0 = [p] := fun {O' σ' I' H' e l'} w sr h0 => by
    have k := w.kp 0 (by simp)
    rw [g0] at k
    obtain ⟨F, fp⟩ := sr.fp
    obtain ⟨q, ws', a, b, c, r'⟩ := fp.own 0 l' (own0_at h0)
    rw [k] at a; cases a
    refine ⟨ws', (fp.fo 0 p (by rw [b]; simp)).2, c, r', fun G gp => ?_⟩
    obtain ⟨q, ws2, a2, b2, _⟩ := gp.own 0 l' (own0_at h0)
    rw [k] at a2; cases a2
    exact b2
  cases q : b (.own l :: (ds.map Sl.imm ++ List.replicate (N.length - (ds.length + 1)) .non)) with
  | bad => rw [q] at h; exact h.elim
  | bk e => rw [q] at h; exact h.elim
  | ct e => rw [q] at h; exact h.elim
  | nx e =>
    rw [q] at h
    simp only [FG.of] at h
    cases q0 : own0 e with
    | none => rw [q0] at h; exact h.elim
    | some l' =>
      rw [q0] at h
      intro O' σ' I' H' w sr
      obtain ⟨ws', a1, a2, a3, _⟩ := fin w sr q0
      exact h I' H' .non ws' w.st sr.ext a1 a2 a3 (show RD K I' .non _ by simp only [RD])
  | ex c d e =>
    rw [q] at h
    simp only [FG.of] at h
    cases q0 : own0 e with
    | none => rw [q0] at h; exact h.elim
    | some l' =>
      rw [q0] at h
      intro O' σ' I' H' w sr dd v n z r
      obtain ⟨ws', a1, a2, a3, _⟩ := fin w sr q0
      exact h dd v I' H' ws' w.st sr.ext a1 a2 a3 n z r
  | rt vl e =>
    rw [q] at h
    have h2 : ∃ wl l', vl ≠ .view 0 ∧ clo vl e = some wl ∧ own0 e = some l' ∧ ∀ I' H' v ws', Stp (fun a => a = p) I H I' H' → Le I' H' → I' p = none → H' p = some (.lst ws') → RDs K I' l' ws' → VR K H I' H' [] wl v → Q v H' := by
      have key : ∀ (hv : vl ≠ .view 0), (match (match clo vl e, own0 e with | some w, some l => FG.ret w l | _, _ => .bad) with
        | .ret vl l' => ∀ I' H' v ws', Stp (fun a => a = p) I H I' H' → Le I' H' → I' p = none → H' p = some (.lst ws') → RDs K I' l' ws' → VR K H I' H' [] vl v → Q v H'
        | .ex c d l' => ∀ dd v I' H' ws', Stp (fun a => a = p) I H I' H' → Le I' H' → I' p = none → H' p = some (.lst ws') → RDs K I' l' ws' → H dd = none → H' dd = some (.xd [(("value" : Str), v)]) → RD K I' d v → E (.ref (ca c)) (some dd) H'
        | .bad => False) → ∃ wl l', vl ≠ .view 0 ∧ clo vl e = some wl ∧ own0 e = some l' ∧ ∀ I' H' v ws', Stp (fun a => a = p) I H I' H' → Le I' H' → I' p = none → H' p = some (.lst ws') → RDs K I' l' ws' → VR K H I' H' [] wl v → Q v H' := fun hv h => by
        cases qc : clo vl e with
        | none => rw [qc] at h; exact h.elim
        | some wl =>
          cases q0 : own0 e with
          | none => rw [qc, q0] at h; exact h.elim
          | some l' => rw [qc, q0] at h; exact ⟨wl, l', hv, rfl, rfl, h⟩
      cases vl with
      | imm d => exact key (by simp) h
      | cell d => exact key (by simp) h
      | deep d => exact key (by simp) h
      | view i =>
        cases i with
        | zero => exact h.elim
        | succ i => exact key (by simp) h
    obtain ⟨wl, l', hv, qc, q0, h3⟩ := h2
    intro O' σ' I' H' w sr v hvr
    obtain ⟨ws', a1, a2, a3, a4⟩ := fin w sr q0
    refine h3 I' H' v ws' w.st sr.ext a1 a2 a3 (clo_ok sr hvr qc fun i F fp e a ha => ?_)
    rcases w.ex a (fp.fo i a ha).1 with z | z
    · have h0 := a4 F fp
      have : i = 0 := fp.dj i 0 a ha (by rw [h0, z]; simp)
      rw [this] at e
      exact absurd e hv
    · exact z
end TL

set_option Elab.async false
set_option linter.all false
set_option autoImplicit false
set_option maxRecDepth 100000
set_option maxHeartbeats 4000000
namespace TL
open PySem PySem.Spec PyProof.Rows L2

/-- a def's promise, where no guard stands around the call -/
structure FnG (P : Program) (w : World) (K : Fg) (mg : Str → Option Value) (base : Heap) (CX : CXT) (k : Nat) (f : Addr) (fd : FuncData) (ps : List Str) (sp : Sp) : Prop where
  run : ∀ (A : Around) (outer : List PySem.Env) (s : Shared) (H : Hp) (args : Args) (us : List Value) (vs : List V) (Q : VK) (E : XK), Room k A → A.guards = some [] → Env0 P w K mg base A outer s H →
    BindsTo s fd args (ps.zip us) → Vals vs us → sp vs H Q E → codeAny (model P w) A (.call (.ref f) args) (CR CX outer P w H s Q E) s
def IsFn (x : Str) (st : Stmt) (fd : FuncData) : Prop := ∃ (kV doc pm : Value) (an : Option Addr) (cdv ct : Value), fd = PySem.W.fnOf x x (C8.fnArgs st) (C8.fnBody st) (C8.fnScope st) .none kV doc pm an cdv ct
/-- a def of the module as the top left it -/
structure Df (K : Fg) (mg : Str → Option Value) (x : Str) (st : Stmt) (f : Addr) (fd : FuncData) : Prop where
  ex : ∃ (oc : Value) (od : Option Addr) (kV doc pm : Value) (an : Option Addr) (cdv ct : Value) (osl : Array (Option Value)),
    fd = PySem.W.fnOf x x (C8.fnArgs st) (C8.fnBody st) (C8.fnScope st) .none kV doc pm an cdv ct ∧ K.lookup f = some ⟨oc, od, .func fd, osl⟩ ∧ PySem.W.codeIn K cdv x = true
  mgf : mg x = some (.ref f)
  kp : PySem.W.keepIn K (.ref f) = true
/-- a def that may be called -/
structure CalG (P : Program) (w : World) (K : Fg) (mg : Str → Option Value) (base : Heap) (CX : CXT) (k : Nat) (x : Str) (st : Stmt) (ps : List Str) (sp : Sp) : Prop where
  ex : ∃ (f : Addr) (fd : FuncData), FnG P w K mg base CX k f fd ps sp ∧ mg x = some (.ref f) ∧ PySem.W.keepIn K (.ref f) = true ∧ IsFn x st fd
  df : ∃ (f : Addr) (fd : FuncData), Df K mg x st f fd ∧ FnG P w K mg base CX k f fd ps sp
def pick {α : Type} (perm : List Nat) (l : List α) : List α := perm.filterMap fun i => l[i]?
/-- how a call binds: us in their places, then the keywords ks -/
def BindsAs (x : Str) (st : Stmt) (ps : List Str) (n : Nat) (ks : List Str) (perm : List Nat) : Prop :=
  ∀ (kV doc pm : Value) (an : Option Addr) (cdv ct : Value) (us ws : List Value), us.length = n → ws.length = ks.length →
    bindArgs (PySem.W.fnOf x x (C8.fnArgs st) (C8.fnBody st) (C8.fnScope st) .none kV doc pm an cdv ct) ⟨us, ks.zip ws⟩ = pure (ps.zip (pick perm (us ++ ws)))
def BindsP (x : Str) (st : Stmt) (ps : List Str) : Prop :=
  ∀ (kV doc pm : Value) (an : Option Addr) (cdv ct : Value) (us : List Value), us.length = ps.length →
    bindArgs (PySem.W.fnOf x x (C8.fnArgs st) (C8.fnBody st) (C8.fnScope st) .none kV doc pm an cdv ct) ⟨us, []⟩ = pure (ps.zip us)
theorem pick_vals {perm : List Nat} {vs : List V} {us : List Value} (r : Vals vs us) : Vals (pick perm vs) (pick perm us) := by
  unfold pick
  induction perm with
  | nil => exact .nil
  | cons i l ih =>
    have hl := r.length
    by_cases h : i < vs.length
    · have h2 : i < us.length := by omega
      obtain ⟨u, e1, e2⟩ := r.get (List.getElem?_eq_getElem h)
      rw [List.filterMap_cons_some (List.getElem?_eq_getElem h), List.filterMap_cons_some e1]
      exact .cons e2 ih
    · have h2 : ¬ i < us.length := by omega
      rw [List.filterMap_cons_none (List.getElem?_eq_none (by omega)), List.filterMap_cons_none (List.getElem?_eq_none (by omega))]
      exact ih
theorem pick_rds {K : Fg} {I : Hp} {perm : List Nat} {l : List D} {vs : List V} (r : RDs K I l vs) : RDs K I (pick perm l) (pick perm vs) := by
  unfold pick
  induction perm with
  | nil => exact RDs.nil
  | cons i p ih =>
    have hl := r.len
    by_cases h : i < vs.length
    · obtain ⟨d, e1, e2⟩ := r.get (List.getElem?_eq_getElem h)
      rw [List.filterMap_cons_some (List.getElem?_eq_getElem h), List.filterMap_cons_some e1]
      exact RDs.cons e2 ih
    · rw [List.filterMap_cons_none (List.getElem?_eq_none (by omega)), List.filterMap_cons_none (List.getElem?_eq_none (by omega))]
      exact ih

/-! ### by its body -/
theorem fnG_of {CX : CXT} {P : Program} {w : World} {K : Fg} {mg : Str → Option Value} {base : Heap} {k : Nat} {f : Addr} {x : Str} {st : Stmt} {fd : FuncData} {N ps : List Str} {sp : Sp} (F : Df K mg x st f fd) (S : FnScope N ps (C8.fnScope st))
    (len : ∀ vs H Q E, sp vs H Q E → vs.length = ps.length)
    (hbody : ∀ (cdv : Value) (A : Around) (outer : List PySem.Env) (s : Shared) (H : Hp) (vs : List V) (Q : VK) (E : XK), Room k (A.deeper (envOfC x (C8.fnScope st) s.heap.objs.size f cdv)) → A.guards = some [] → sp vs H Q E →
      ∃ t, PSs (cxOf CX P w K mg base N x (C8.fnScope st) f cdv A outer s H E) (C8.fnBody st) t ∧ t { nx := fun _ H' => Q .non H', rt := Q } (L2.start N vs) H) : FnG P w K mg base CX (k + 1) f fd ps sp := by
  obtain ⟨oc, od, kV, doc, pm, an, cdv, ct, osl, rfl, lk, hcd⟩ := F.ex
  exact ⟨fun A outer s H args us vs Q E hr hg e0 hb r hsp => LamX.run_ofS lk hcd S hr e0 hb r (len _ _ _ _ hsp) fun hr' => hbody cdv A outer s H vs Q E hr' hg hsp⟩
theorem Df.isFn {K : Fg} {mg : Str → Option Value} {x : Str} {st : Stmt} {f : Addr} {fd : FuncData} (F : Df K mg x st f fd) : IsFn x st fd := by
  obtain ⟨oc, od, kV, doc, pm, an, cdv, ct, osl, rfl, _, _⟩ := F.ex
  exact ⟨kV, doc, pm, an, cdv, ct, rfl⟩
/-- the context of a body -/
theorem gd_of {CX : CXT} {P : Program} {w : World} {K : Fg} {mg : Str → Option Value} {base : Heap} {k : Nat} {f : Addr} {x : Str} {N : List Str} {scope : Scope} {cdv : Value} {A : Around} {outer : List PySem.Env} {s : Shared} {H : Hp} {E : XK}
    (hr : Room k (A.deeper (envOfC x scope s.heap.objs.size f cdv))) (hg : A.guards = some []) : Gd (cxOf CX P w K mg base N x scope f cdv A outer s H E) :=
  ⟨by have := hr.un; show (A.deeper _).units + 80 < _; omega, hg, rfl, hr.hd⟩
theorem pas_of {CX : CXT} {P : Program} {w : World} {K : Fg} {mg : Str → Option Value} {base : Heap} {f : Addr} {x : Str} {N : List Str} {scope : Scope} {cdv : Value} {A : Around} {outer : List PySem.Env} {s : Shared} {H : Hp} {E : XK} :
    PassesOwn (model P w) (cxOf CX P w K mg base N x scope f cdv A outer s H E).A (cxOf CX P w K mg base N x scope f cdv A outer s H E).env (cxOf CX P w K mg base N x scope f cdv A outer s H E).xe := L2.passes_of (X := cxOf CX P w K mg base N x scope f cdv A outer s H E) (K := fun e s'' => CX outer H s E e s'') rfl
/-- what is raised beneath is told -/
def Tells (X : Cx) (CX : CXT) (W : WX) : Prop := ∀ σ, PassesAt CX X σ (WE W σ)
section
variable {CX : CXT} {P : Program} {w : World} {K : Fg} {mg : Str → Option Value} {base : Heap} {k : Nat} {f : Addr} {x : Str} {st : Stmt} {fd : FuncData} {N ps : List Str} {ca : CaT} {b : SS} {n : Nat}
theorem calG_mk {sp : Sp} (F : Df K mg x st f fd) (h : FnG P w K mg base CX k f fd ps sp) : CalG P w K mg base CX k x st ps sp := ⟨⟨f, fd, h, F.mgf, F.kp, F.isFn⟩, ⟨f, fd, F, h⟩⟩
theorem calG_P (F : Df K mg x st f fd) (S : FnScope N ps (C8.fnScope st)) (hn : ps.length = n)
    (hbody : ∀ (cdv : Value) (A : Around) (outer : List PySem.Env) (s : Shared) (H : Hp) (E : XK), Room k (A.deeper (envOfC x (C8.fnScope st) s.heap.objs.size f cdv)) → Gd (cxOf CX P w K mg base N x (C8.fnScope st) f cdv A outer s H E) →
      PSs (cxOf CX P w K mg base N x (C8.fnScope st) f cdv A outer s H E) (C8.fnBody st) (rdS (srdE K ca E) [] b)) : CalG P w K mg base CX (k + 1) x st ps (spP K ca n (runP N.length b)) :=
  calG_mk F (fnG_of F S (fun vs H Q E h => by rw [h.1, hn]) fun cdv A outer s H vs Q E hr hg hsp => ⟨_, hbody cdv A outer s H E hr (gd_of hr hg), body_P hsp⟩)
theorem calG_G (F : Df K mg x st f fd) (S : FnScope N ps (C8.fnScope st)) (hn : ps.length = n)
    (hbody : ∀ (cdv : Value) (A : Around) (outer : List PySem.Env) (s : Shared) (H : Hp) (E : XK), Room k (A.deeper (envOfC x (C8.fnScope st) s.heap.objs.size f cdv)) → Gd (cxOf CX P w K mg base N x (C8.fnScope st) f cdv A outer s H E) →
      PSs (cxOf CX P w K mg base N x (C8.fnScope st) f cdv A outer s H E) (C8.fnBody st) (rdS (srdE K ca E) [0] b)) : CalG P w K mg base CX (k + 1) x st ps (spG K ca n (runG N.length b)) :=
  calG_mk F (fnG_of F S (fun vs H Q E h => by rw [h.1, hn]) fun cdv A outer s H vs Q E hr hg hsp => ⟨_, hbody cdv A outer s H E hr (gd_of hr hg), body_G (by
    have h1 := congrArg List.length S.pre
    rw [List.length_take] at h1
    omega) hsp⟩)
theorem calG_none {sp : Sp} (F : Df K mg x st f fd) (h : ∀ vs H Q E, sp vs H Q E → False) : CalG P w K mg base CX k x st ps sp := calG_mk F ⟨fun A outer s H args us vs Q E _ _ _ _ _ q => (h _ _ _ _ q).elim⟩
end

/-! ### calls -/
def sCallP (n : Nat) (sem : List D → FO) (fr : SD) : SF := fun e => (fr e).bind fun ds e1 => if ds.length = n then (match sem ds with
  | .ret vl => .ok vl e1
  | .ex c d => .ex c d e1
  | .bad => .bad) else .bad
/-- with keywords -/
def sCallK (n n0 nk : Nat) (perm : List Nat) (sem : List D → FO) (fr fk : SD) : SF := fun e => (fr e).bind fun ds e1 => (fk e1).bind fun zs e2 => if ds.length = n0 ∧ zs.length = nk ∧ (pick perm (ds ++ zs)).length = n then (match sem (pick perm (ds ++ zs)) with
  | .ret vl => .ok vl e2
  | .ex c d => .ex c d e2
  | .bad => .bad) else .bad
def sCallG (n i : Nat) (sem : List D → List D → FG) (fr : SD) : SF := fun e => match e[i]? with
  | some (.own _) => (fr e).bind fun ds e1 => (match e1[i]? with
    | some (.own l) => if ds.length + 1 = n then (match sem l ds with
      | .ret vl l' => .ok vl (e1.set i (.own l'))
      | .ex c d l' => .ex c d (e1.set i (.own l'))
      | .bad => .bad) else .bad
    | _ => .bad)
  | _ => .bad
/-- a new list handed in -/
def sCallF (n : Nat) (sem : List D → List D → FG) (fa : SF) (fr : SD) : SF := fun e => match fa e with
  | .ok (.cell l) e1 => (match fr e1 with
    | .ok ds e2 => if ds.length + 1 = n then (match sem l ds with
      | .ret vl l' => .ok vl e2
      | _ => .bad) else .bad
    | _ => .bad)
  | _ => .bad
def tCallG (sp : Sp) (E : L2.St → XK) (t : TA) : TE := fun σ H Q => t σ H fun vs H1 => sp vs H1 Q (E σ)
def tCallGK (sp : Sp) (n0 nk : Nat) (perm : List Nat) (E : L2.St → XK) (t tk : TA) : TE := fun σ H Q => t σ H fun vs H1 => tk σ H1 fun zs H2 => vs.length = n0 ∧ zs.length = nk ∧ sp (pick perm (vs ++ zs)) H2 Q (E σ)
section
variable {S : Srd} {O : Addr → Prop} {I H I' H' Hs : Hp} {σ : L2.St} {env : Env} {Q : VK}
theorem SR.free (sr : SR S.K O I H σ env) (st : Stp (fun _ => False) I H I' H') (e : Le I' H') : SR S.K O I' H' σ env :=
  sr.step (st.sub fun _ h _ => h.elim) e (fun a h => by
    cases q : H a with
    | none => exact absurd q (sr.oh a h)
    | some o => exact st.hh a o (fun z => z) q) fun a h q => st.fr a (fun z => z) q (sr.oh a h)
theorem SR.step2 (sr : SR S.K O I H σ env) (ii : Le I I') (nn : ∀ a, H a ≠ none → H' a ≠ none) (e : Le I' H') (k : ∀ a, O a → H' a = H a) (ki : ∀ a, O a → I a = none → I' a = none) : SR S.K O I' H' σ env := by
  obtain ⟨F, fp⟩ := sr.fp
  have fr : ∀ i a, a ∈ F i → I' a = none := fun i a h => ki a (fp.fo i a h).1 (fp.fo i a h).2
  refine ⟨sr.len, e, fun a h => nn a (sr.oh a h), fun i d h => ?_, ⟨F, ⟨fun i a h => ⟨(fp.fo i a h).1, fr i a h⟩, fp.nd, fp.dj, fun i l h => ?_, fun i t h => ?_⟩⟩⟩
  · obtain ⟨v, a, b⟩ := sr.imm i d h
    exact ⟨v, a, RD.mono ii b⟩
  · obtain ⟨p, vs, a, b, c, d⟩ := fp.own i l h
    exact ⟨p, vs, a, b, (k p (fp.fo i p (by rw [b]; simp)).1).trans c, RDs.mono ii d⟩
  · obtain ⟨v, a, b⟩ := fp.deep i t h
    exact ⟨v, a, RO.mono ii b fun p o hp _ hh => ⟨fr i p hp, (k p (fp.fo i p hp).1).trans hh⟩⟩
theorem VR.slots0 {K : Fg} {σ : L2.St} {vl : Val} {v : V} (h : VR K Hs I H [] vl v) : VR K Hs I H σ vl v := by
  cases vl with
  | view i =>
    have h : ([] : L2.St)[i]? = some (some v) := h
    simp at h
  | _ => exact h
theorem rd_callP {n : Nat} {sem : List D → FO} {fr : SD} (h : rd S (sCallP n sem fr) σ H Q) : tCallG (spP S.K S.ca n sem) (WE S.W) (rdD S fr) σ H Q := by
  obtain ⟨O, I, env, sr, P⟩ := h
  refine ⟨O, I, env, sr, (Post.bind P).imp fun ds e1 I1 H1 st1 sr1 P1 vs hvs => ?_⟩
  by_cases hn : ds.length = n
  case neg => simp only [hn, if_false] at P1; exact P1.elim
  simp only [hn, if_true] at P1
  refine ⟨by rw [hvs.len]; exact hn, I1, ds, sr1.ext, hvs, ?_⟩
  cases q : sem ds with
  | bad => rw [q] at P1; exact P1.elim
  | ret vl =>
    rw [q] at P1
    exact fun I' H' v st le vr => P1 I' H' (st.sub fun _ z _ => z.elim) (sr1.free st le) v ((vr.from fun a z => st1.gone z).slots0)
  | ex c d =>
    rw [q] at P1
    exact fun dd v I' H' st le n z r => P1 dd v I' H' (st.sub fun _ z _ => z.elim) (sr1.free st le) n z r
theorem rd_callK {n n0 nk : Nat} {perm : List Nat} {sem : List D → FO} {fr fk : SD} (h : rd S (sCallK n n0 nk perm sem fr fk) σ H Q) : tCallGK (spP S.K S.ca n sem) n0 nk perm (WE S.W) (rdD S fr) (rdD S fk) σ H Q := by
  obtain ⟨O, I, env, sr, P⟩ := h
  refine ⟨O, I, env, sr, (Post.bind P).imp fun ds e1 I0 H0 st0 sr0 P0 vs hvs => ?_⟩
  refine ⟨O, I0, e1, sr0, (Post.bind P0).imp fun es e2 I1 H1 st1 sr1 P1 zs hzs => ?_⟩
  by_cases hn : ds.length = n0 ∧ es.length = nk ∧ (pick perm (ds ++ es)).length = n
  case neg => simp only [hn, if_false] at P1; exact P1.elim
  rw [if_pos hn] at P1
  obtain ⟨hn0, hnk, hn⟩ := hn
  have hall : RDs S.K I1 (pick perm (ds ++ es)) (pick perm (vs ++ zs)) := pick_rds ((hvs.mono st1.ii).app hzs)
  refine ⟨by rw [hvs.len]; exact hn0, by rw [hzs.len]; exact hnk, by rw [hall.len]; exact hn, I1, _, sr1.ext, hall, ?_⟩
  cases q : sem (pick perm (ds ++ es)) with
  | bad => rw [q] at P1; exact P1.elim
  | ret vl =>
    rw [q] at P1
    exact fun I' H' v st le vr => P1 I' H' (st.sub fun _ z _ => z.elim) (sr1.free st le) v ((vr.from fun a z => (st0.tr st1).gone z).slots0)
  | ex c d =>
    rw [q] at P1
    exact fun dd v I' H' st le n z r => P1 dd v I' H' (st.sub fun _ z _ => z.elim) (sr1.free st le) n z r
/-- the callee changes the list in slot i -/
theorem SR.lent {i : Nat} {l l' : List D} {p : Addr} {ws' : List V} (sr : SR S.K O I H σ env) (h : env[i]? = some (.own l)) (hp : σ[i]? = some (some (.ref p))) (st : Stp (fun a => a = p) I H I' H') (le : Le I' H') (hI : I' p = none) (hH : H' p = some (.lst ws')) (r : RDs S.K I' l' ws') :
    SR S.K O I' H' σ (env.set i (.own l')) ∧ Stp O I H I' H' := by
  obtain ⟨F, fp⟩ := sr.fp
  obtain ⟨p', vs, a, b, c, r0⟩ := fp.own i l h
  rw [hp] at a; cases a
  obtain ⟨hO, hI0⟩ := fp.fo i p (by rw [b]; simp)
  have st' : Stp O I H I' H' := st.sub fun x z _ => z ▸ hO
  have keep : ∀ a, O a → a ≠ p → H' a = H a := fun a ha n => by
    cases q : H a with
    | none => exact absurd q (sr.oh a ha)
    | some o => exact st.hh a o n q
  have keepI : ∀ a, O a → I a = none → I' a = none := fun a ha q => by
    by_cases n : a = p
    · rw [n]; exact hI
    · exact st.fr a n q (sr.oh a ha)
  have hF : ∀ j a, j ≠ i → a ∈ F j → a ≠ p := fun j a ne ha z => ne (fp.dj j i a ha (by rw [b, z]; simp))
  refine ⟨⟨by rw [List.length_set]; exact sr.len, le, fun a ha => st.nn a (sr.oh a ha), fun j d e => ?_, F, fun j a ha => ⟨(fp.fo j a ha).1, keepI a (fp.fo j a ha).1 (fp.fo j a ha).2⟩, fp.nd, fp.dj, fun j m e => ?_, fun j t e => ?_⟩, st'⟩
  · rcases get_set _ _ _ _ _ e with ⟨rfl, e2⟩ | ⟨ne, e2⟩
    · cases e2
    · obtain ⟨v, a1, a2⟩ := sr.imm j d e2
      exact ⟨v, a1, RD.mono st.ii a2⟩
  · rcases get_set _ _ _ _ _ e with ⟨rfl, e2⟩ | ⟨ne, e2⟩
    · cases e2
      exact ⟨p, ws', hp, b, hH, r⟩
    · obtain ⟨q, vs2, a1, a2, a3, a4⟩ := fp.own j m e2
      have hq : q ∈ F j := by rw [a2]; simp
      exact ⟨q, vs2, a1, a2, by rw [keep q (fp.fo j q hq).1 (hF j q ne hq)]; exact a3, RDs.mono st.ii a4⟩
  · rcases get_set _ _ _ _ _ e with ⟨rfl, e2⟩ | ⟨ne, e2⟩
    · cases e2
    · obtain ⟨w, a1, a2⟩ := fp.deep j t e2
      exact ⟨w, a1, RO.mono st.ii a2 fun q o hq hi ho => ⟨keepI q (fp.fo j q hq).1 hi, by rw [keep q (fp.fo j q hq).1 (hF j q ne hq)]; exact ho⟩⟩
theorem rd_callG {n i : Nat} {sem : List D → List D → FG} {fr : SD} (h : rd S (sCallG n i sem fr) σ H Q) : tCallG (spG S.K S.ca n sem) (WE S.W) (tCons (tVar i) (rdD S fr)) σ H Q := by
  obtain ⟨O, I, env, sr, P⟩ := h
  simp only [sCallG] at P
  cases el : env[i]? with
  | none => rw [el] at P; exact P.elim
  | some sl =>
    rw [el] at P
    cases sl with
    | non => exact P.elim
    | imm d => exact P.elim
    | deep t => exact P.elim
    | own l0 =>
      obtain ⟨F, fp⟩ := sr.fp
      obtain ⟨p, vs0, a, b, c, r⟩ := fp.own i l0 el
      refine ⟨.ref p, a, O, I, env, sr, (Post.bind P).imp fun ds e1 I1 H1 st1 sr1 P1 vs hvs => ?_⟩
      cases el2 : e1[i]? with
      | none => simp only [el2] at P1; exact P1.elim
      | some sl =>
        simp only [el2] at P1
        cases sl with
        | non => exact P1.elim
        | imm d => exact P1.elim
        | deep t => exact P1.elim
        | own l =>
          by_cases hn : ds.length + 1 = n
          case neg => simp only [hn, if_false] at P1; exact P1.elim
          simp only [hn, if_true] at P1
          obtain ⟨F2, fp2⟩ := sr1.fp
          obtain ⟨p2, ws, a2, b2, c2, r2⟩ := fp2.own i l el2
          rw [a] at a2; cases a2
          refine ⟨by rw [List.length_cons, hvs.len]; exact hn, I1, p, l, ws, ds, vs, sr1.ext, rfl, (fp2.fo i p (by rw [b2]; simp)).2, c2, r2, hvs, ?_⟩
          cases q : sem l ds with
          | bad => rw [q] at P1; exact P1.elim
          | ret vl l' =>
            rw [q] at P1
            intro I' H' v ws' st le hI hH r' vr
            obtain ⟨sr3, st3⟩ := sr1.lent el2 a st le hI hH r'
            exact P1 I' H' st3 sr3 v ((vr.from fun a z => st1.gone z).slots0)
          | ex cc d l' =>
            rw [q] at P1
            intro dd v I' H' ws' st le hI hH r' n z r
            obtain ⟨sr3, st3⟩ := sr1.lent el2 a st le hI hH r'
            exact P1 dd v I' H' st3 sr3 n z r
theorem rd_callF {n : Nat} {sem : List D → List D → FG} {fa : SF} {fr : SD} (h : rd S (sCallF n sem fa fr) σ H Q) : tCallG (spG S.K S.ca n sem) (WE S.W) (tCons (rd S fa) (rdD S fr)) σ H Q := by
  obtain ⟨O, I, env, sr, P⟩ := h
  simp only [sCallF] at P
  refine ⟨O, I, env, sr, ?_⟩
  cases qa : fa env with
  | bad => rw [qa] at P; exact P.elim
  | ex c d e => rw [qa] at P; exact P.elim
  | ok x e1 =>
    rw [qa] at P
    cases x with
    | imm d => exact P.elim
    | deep t => exact P.elim
    | view j => exact P.elim
    | cell l =>
      intro I1 H1 st1 sr1 va hva
      refine ⟨O, I1, e1, sr1, ?_⟩
      cases qr : fr e1 with
      | bad => simp only [qr] at P; exact P.elim
      | ex c d e => simp only [qr] at P; exact P.elim
      | ok ds e2 =>
        simp only [qr] at P
        by_cases hn : ds.length + 1 = n
        case neg => simp only [hn, if_false] at P; exact P.elim
        simp only [hn, if_true] at P
        intro I2 H2 st2 sr2 vs hvs
        obtain ⟨p, ws, rfl, hp0, hpI, hpH, rl⟩ := hva.step sr.oh st2
        have hOp : ¬ O p := fun z => sr.oh p z hp0
        refine ⟨by rw [List.length_cons, hvs.len]; exact hn, I2, p, l, ws, ds, vs, sr2.ext, rfl, hpI, hpH, rl, hvs, ?_⟩
        cases q : sem l ds with
        | bad => simp only [q] at P; exact P.elim
        | ex c d l' => simp only [q] at P; exact P.elim
        | ret vl l' =>
          simp only [q] at P
          intro I' H' v ws' st le hI hH r' vr
          have s12 := st1.tr st2
          have stB : Stp O I H I' H' := ⟨s12.ii.tr st.ii, fun a o n e => st.hh a o (fun z => by rw [z, hp0] at e; cases e) (s12.hh a o n e), fun a h => st.nn a (s12.nn a h), fun a n h1 h2 => st.fr a (fun z => h2 (by rw [z]; exact hp0)) (s12.fr a n h1 h2) (s12.nn a h2)⟩
          have sr3 : SR S.K O I' H' σ e2 := sr2.step2 st.ii st.nn le (fun a h => by
            cases q : H2 a with
            | none => exact absurd q (sr2.oh a h)
            | some o => exact st.hh a o (fun z => hOp (z ▸ h)) q) (fun a h q => st.fr a (fun z => hOp (z ▸ h)) q (sr2.oh a h))
          exact P I' H' stB sr3 v ((vr.from fun a z => s12.gone z).slots0)
end

/-! ### at a call -/
section
variable {X : Cx} {S : Srd} {CX : CXT} {k j : Nat} {x : Str} {st : Stmt} {ps ks : List Str} {sp : Sp} {perm : List Nat} {n i : Nat} {p pos : Pos} {e : Expr} {es : List Expr} {kws : List Keyword} {t tk : TA} {fr fk : SD} {fa : SF}
theorem tells0 {W : WX} : Tells X C8.CX0 W := fun _ _ _ _ _ _ _ h => h.elim
theorem run_g {f : Addr} {fd : FuncData} {args : Args} {pins : List (Addr × Obj)} {σ : L2.St} {H : Hp} {s : Shared} {Q : VK} {us : List Value} {vs : List V} {W : WX} (F : FnG X.prog X.w X.K X.mg X.base CX k f fd ps sp) (hr : Room k X.A) (hg : X.A.guards = some []) (hx : Tells X CX W)
    (I : Inv X pins σ H s) (hb : BindsTo s fd args (ps.zip us)) (r : Vals vs us) (h : sp vs H Q (WE W σ)) : codeAny (model X.prog X.w) X.A (.call (.ref f) args) (fun r s' => match r with | .ok (.ret u) => EP X pins σ Q u s' | .ok _ => False | .error e => X.xe e s') s := by
  refine codeAny_mono (F.run X.A X.stack s H args us vs Q _ hr hg I.env0 hb r h) fun z s' hq => ?_
  cases z with
  | error e => exact hx σ pins H s e s' I hq
  | ok fl =>
    cases fl with
    | ret u => exact I.after hq
    | next => exact hq
    | brk => exact hq
    | cont => exact hq
theorem pe_g (c : CalG X.prog X.w X.K X.mg X.base CX k x st ps sp) (hr : Room j X.A) (hk : k ≤ j) (hgu : X.A.guards = some []) {W : WX} (hx : Tells X CX W) (hg : Gl X x) (hl : ∀ vs H Q E, sp vs H Q E → vs.length = ps.length) (b : BindsP x st ps)
    (ha : PA X (e :: es) t) (hdb : (x == ("__debug__" : Str)) = false := by decide) (he : starEach (e :: es) X.env = (false, eval e X.env) :: starEach es X.env := by rfl) (hpl : (backTo pos (starEach es X.env)).any (·.1) = false := by rfl) :
    PE X (.Call (.Name x p) (e :: es) [] pos) (tCallG sp (WE W) t) := by
  obtain ⟨f, fd, F, hm, kp, kV, doc, pm, an, cdv, ct, rfl⟩ := c.ex
  refine ⟨fun pins s σ H Q I h => wpAny_Call_Name_kw (ld_glob I hg hm ?_ hdb)⟩
  refine PySem.W.callWith_K (h₀ := X.base) I.ok.mod.kin kp (thn (ha.run pos pins s σ H _ I h) fun us s1 ⟨vs, H1, I1, r, q⟩ => ⟨I1.kIn, ?_⟩) he hpl
  have b1 := b kV doc pm an cdv ct us (by rw [← r.length]; exact hl _ _ _ _ q)
  refine wpAny_call (codeAny_mono (run_g F (hr.mono hk) hgu hx I1 (.of_eq b1) r q) fun z s2 hq => ?_)
  cases z with
  | error e => exact hq
  | ok fl => cases fl <;> exact hq
theorem pe_g0 (c : CalG X.prog X.w X.K X.mg X.base CX k x st ps sp) (hr : Room j X.A) (hk : k ≤ j) (hgu : X.A.guards = some []) {W : WX} (hx : Tells X CX W) (hg : Gl X x) (hp : ps = []) (b : BindsP x st ps)
    (hdb : (x == ("__debug__" : Str)) = false := by decide) : PE X (.Call (.Name x p) [] [] pos) (tCallG sp (WE W) tNil) := by
  obtain ⟨f, fd, F, hm, kp, kV, doc, pm, an, cdv, ct, rfl⟩ := c.ex
  subst hp
  refine ⟨fun pins s σ H Q I h => ?_⟩
  refine wpAny_Call_Name_kw (ld_glob I hg hm ?_ hdb)
  refine PySem.W.callWith_K0 I.kIn kp ?_
  have b1 := b kV doc pm an cdv ct [] rfl
  refine wpAny_call (codeAny_mono (run_g (us := []) F (hr.mono hk) hgu hx I (.of_eq b1) .nil h) fun z s2 hq => ?_)
  cases z with
  | error e => exact hq
  | ok fl => cases fl <;> exact hq
theorem pe_gk0 {n0 nk : Nat} (c : CalG X.prog X.w X.K X.mg X.base CX k x st ps sp) (hr : Room j X.A) (hk : k ≤ j) (hgu : X.A.guards = some []) {W : WX} (hx : Tells X CX W) (hg : Gl X x) (b : BindsAs x st ps 0 ks perm)
    (hkw : PK X kws tk) (hnk : nk = ks.length) (hall : (backToKw pos (keywordEach kws X.env)).all (·.1.isSome) = true := by rfl) (hks : (backToKw pos (keywordEach kws X.env)).filterMap (·.1) = ks := by rfl)
    (hdb : (x == ("__debug__" : Str)) = false := by decide) (hpl : ((backTo pos (starEach [] X.env)).any (·.1) || (backToKw pos (keywordEach kws X.env)).any (·.1.isNone)) = false := by rfl) :
    PE X (.Call (.Name x p) [] kws pos) (tCallGK sp n0 nk perm (WE W) tNil tk) := by
  obtain ⟨f, fd, F, hm, kp, kV, doc, pm, an, cdv, ct, rfl⟩ := c.ex
  refine ⟨fun pins s σ H Q I h => wpAny_Call_Name_kw (ld_glob I hg hm ?_ hdb)⟩
  refine PySem.W.callWith_KW0 (h₀ := X.base) I.ok.mod.kin kp hall ?_ hpl
  refine thn (hkw.run pos pins s σ H _ I h) fun ws s2 ⟨zs, H2, I2, rz, q0, q1, q2⟩ => ⟨I2.kIn, ?_⟩
  rw [hks]
  have b1 := b kV doc pm an cdv ct [] ws rfl (by rw [← rz.length, q1, hnk])
  refine wpAny_call (codeAny_mono (run_g F (hr.mono hk) hgu hx I2 (.of_eq b1) (pick_vals rz) q2) fun z s2 hq => ?_)
  cases z with
  | error e => exact hq
  | ok fl => cases fl <;> exact hq
theorem pe_gk {n0 nk : Nat} (c : CalG X.prog X.w X.K X.mg X.base CX k x st ps sp) (hr : Room j X.A) (hk : k ≤ j) (hgu : X.A.guards = some []) {W : WX} (hx : Tells X CX W) (hg : Gl X x) (b : BindsAs x st ps n0 ks perm)
    (ha : PA X (e :: es) t) (hkw : PK X kws tk) (hnk : nk = ks.length) (hall : (backToKw pos (keywordEach kws X.env)).all (·.1.isSome) = true := by rfl) (hks : (backToKw pos (keywordEach kws X.env)).filterMap (·.1) = ks := by rfl)
    (hdb : (x == ("__debug__" : Str)) = false := by decide) (he : starEach (e :: es) X.env = (false, eval e X.env) :: starEach es X.env := by rfl)
    (hpl : ((backTo pos (starEach (e :: es) X.env)).any (·.1) || (backToKw pos (keywordEach kws X.env)).any (·.1.isNone)) = false := by rfl) :
    PE X (.Call (.Name x p) (e :: es) kws pos) (tCallGK sp n0 nk perm (WE W) t tk) := by
  obtain ⟨f, fd, F, hm, kp, kV, doc, pm, an, cdv, ct, rfl⟩ := c.ex
  refine ⟨fun pins s σ H Q I h => wpAny_Call_Name_kw (ld_glob I hg hm ?_ hdb)⟩
  refine PySem.W.callWith_KW (h₀ := X.base) I.ok.mod.kin kp hall (thn (ha.run pos pins s σ H _ I h) fun us s1 ⟨vs, H1, I1, r, q⟩ => ?_) hpl he
  refine thn (hkw.run pos pins s1 σ H1 _ I1 q) fun ws s2 ⟨zs, H2, I2, rz, q0, q1, q2⟩ => ⟨I2.kIn, ?_⟩
  rw [hks]
  have b1 := b kV doc pm an cdv ct us ws (by rw [← r.length, q0]) (by rw [← rz.length, q1, hnk])
  refine wpAny_call (codeAny_mono (run_g F (hr.mono hk) hgu hx I2 (.of_eq b1) (pick_vals (r.append rz)) q2) fun z s2 hq => ?_)
  cases z with
  | error e => exact hq
  | ok fl => cases fl <;> exact hq
theorem PK.imp {t' : TA} (h : PK X kws t) (k : ∀ σ H Q, t' σ H Q → t σ H Q) : PK X kws t' := ⟨fun p pins s σ H Q I q => h.run p pins s σ H Q I (k σ H Q q)⟩
end
end TL

set_option Elab.async false
set_option linter.all false
set_option autoImplicit false
set_option maxRecDepth 100000
set_option maxHeartbeats 4000000
namespace TL
open PySem PySem.Spec PyProof.Rows L2

/-! ## texts: counting a sign -/
theorem cnt_loop (x : Str) (c : Nat) : ∀ (k i : Nat) (st : Array Nat × Nat), i + k = x.length + 1 → st.2 ≤ i → st.1.size ≤ i →
    (forIn (List.range' i k) st (StrLaws.occBody x ⟨#[c]⟩ x.length (x.length + 1))).run.fst.size = st.1.size + (x.cps.toList.drop i).count c
  | 0, i, st, h, _, _ => by
    have e : x.cps.toList.drop i = [] := List.drop_eq_nil_of_le (by simp [Str.length] at h ⊢; omega)
    rw [e]; rfl
  | k + 1, i, st, h, h1, h2 => by
    have one := StrLaws.subAt_one x c i
    rw [List.range'_succ, List.forIn_cons]
    unfold StrLaws.occBody
    by_cases hc : x.cps.toList[i]? = some c
    · obtain ⟨a1, a2⟩ := one.mpr hc
      rw [if_pos ⟨⟨⟨by omega, h1⟩, a1⟩, a2⟩]
      have ih := cnt_loop x c k (i + 1) (st.1.push i, i + (⟨#[c]⟩ : Str).length) (by omega) (Nat.le_refl _) (by simp; omega)
      obtain ⟨hlt, hv⟩ := List.getElem?_eq_some_iff.mp hc
      rw [List.drop_eq_getElem_cons hlt, hv, List.count_cons_self]
      refine Eq.trans ih ?_
      simp only [Array.size_push]; omega
    · rw [if_neg (fun z => hc (one.mp ⟨z.1.2, z.2⟩))]
      have ih := cnt_loop x c k (i + 1) (st.1, st.2) (by omega) (Nat.le_trans h1 (Nat.le_succ i)) (Nat.le_trans h2 (Nat.le_succ i))
      refine Eq.trans ih ?_
      by_cases hlt : i < x.cps.toList.length
      · rw [List.drop_eq_getElem_cons hlt, List.count_cons_of_ne]
        intro e
        exact hc (by rw [List.getElem?_eq_getElem hlt, e])
      · rw [List.drop_eq_nil_of_le (by omega), List.drop_eq_nil_of_le (by omega)]
theorem count_one (s : List Nat) (c : Nat) : Txt.count ⟨s.toArray⟩ ⟨#[c]⟩ = s.count c := by
  have h := cnt_loop ⟨s.toArray⟩ c ((⟨s.toArray⟩ : Str).length + 1) 0 (#[], 0) (by omega) (Nat.le_refl _) (Nat.le_refl _)
  have e : Txt.count ⟨s.toArray⟩ ⟨#[c]⟩ = (Builtin.Str.occurrences ⟨s.toArray⟩ ⟨#[c]⟩ 0 (⟨s.toArray⟩ : Str).length ((⟨s.toArray⟩ : Str).length + 1)).length := rfl
  rw [e, StrLaws.occ_eq, Array.length_toList]
  exact (congrArg (fun n : Nat => (n : Int)) h).trans (by simp)
end TL

set_option Elab.async false
set_option linter.all false
set_option autoImplicit false
set_option maxRecDepth 100000
set_option maxHeartbeats 4000000
namespace TL
open PySem PySem.Spec PyProof.Rows L2

/-! ## built-in functions -/
def intsD : List D → Option (List Int)
  | [] => some []
  | .int i :: l => (intsD l).map (i :: ·)
  | _ => none
def blsD : List D → Option (List Bool)
  | [] => some []
  | .bl i :: l => (blsD l).map (i :: ·)
  | _ => none
def strsD : List D → Option (List (List Nat))
  | [] => some []
  | .str i :: l => (strsD l).map (i :: ·)
  | _ => none
theorem ints_rds {K : Fg} {I : Hp} : ∀ {l : List D} {vs : List V} {ns : List Int}, RDs K I l vs → intsD l = some ns → vs = ns.map V.int
  | [], vs, ns, h, e => by cases e; simp only [RDs] at h; exact h
  | d :: l, vs, ns, h, e => by
    simp only [RDs] at h
    obtain ⟨v, r, rfl, a, b⟩ := h
    cases d with
    | int i =>
      simp only [intsD, Option.map_eq_some_iff] at e
      obtain ⟨m, e1, rfl⟩ := e
      simp only [RD] at a; subst a
      rw [ints_rds b e1]; rfl
    | _ => cases e
theorem bls_rds {K : Fg} {I : Hp} : ∀ {l : List D} {vs : List V} {ns : List Bool}, RDs K I l vs → blsD l = some ns → vs = ns.map V.bl
  | [], vs, ns, h, e => by cases e; simp only [RDs] at h; exact h
  | d :: l, vs, ns, h, e => by
    simp only [RDs] at h
    obtain ⟨v, r, rfl, a, b⟩ := h
    cases d with
    | bl i =>
      simp only [blsD, Option.map_eq_some_iff] at e
      obtain ⟨m, e1, rfl⟩ := e
      simp only [RD] at a; subst a
      rw [bls_rds b e1]; rfl
    | _ => cases e
theorem strs_rds {K : Fg} {I : Hp} : ∀ {l : List D} {vs : List V} {ns : List (List Nat)}, RDs K I l vs → strsD l = some ns → vs = (ns.map fun s => (⟨s.toArray⟩ : Str)).map V.str
  | [], vs, ns, h, e => by cases e; simp only [RDs] at h; exact h
  | d :: l, vs, ns, h, e => by
    simp only [RDs] at h
    obtain ⟨v, r, rfl, a, b⟩ := h
    cases d with
    | str i =>
      simp only [strsD, Option.map_eq_some_iff] at e
      obtain ⟨m, e1, rfl⟩ := e
      simp only [RD] at a; subst a
      rw [strs_rds b e1]; rfl
    | _ => cases e
/-- the intsD of a list -/
def intsL : D → Option (List Int)
  | .lst l => intsD l
  | .scr ns => some ns
  | _ => none
theorem intsL_rc {K : Fg} {I H : Hp} {d : D} {v : V} {ns : List Int} (le : Le I H) (h : RC K I H d v) (e : intsL d = some ns) : ∃ a, v = .ref a ∧ SqL K H a (ns.map V.int) := by
  cases d with
  | lst l =>
    obtain ⟨p, vs, rfl, a, r⟩ := h
    exact ⟨p, rfl, by rw [← ints_rds r e]; exact SqL.of a⟩
  | scr m =>
    cases e
    have h : RD K I (.scr ns) v := h
    simp only [RD] at h
    obtain ⟨p, rfl, a⟩ := h
    exact ⟨p, rfl, le.sqL a⟩
  | _ => cases e
def blsL : D → Option (List Bool)
  | .lst l => blsD l
  | _ => none
theorem blsL_rc {K : Fg} {I H : Hp} {d : D} {v : V} {ns : List Bool} (le : Le I H) (h : RC K I H d v) (e : blsL d = some ns) : ∃ a, v = .ref a ∧ SqL K H a (ns.map V.bl) := by
  cases d with
  | lst l =>
    obtain ⟨p, vs, rfl, a, r⟩ := h
    exact ⟨p, rfl, by rw [← bls_rds r e]; exact SqL.of a⟩
  | _ => cases e
def strsL : D → Option (List (List Nat))
  | .lst l => strsD l
  | _ => none
theorem strsL_rc {K : Fg} {I H : Hp} {d : D} {v : V} {ns : List (List Nat)} (le : Le I H) (h : RC K I H d v) (e : strsL d = some ns) : ∃ a, v = .ref a ∧ SqL K H a ((ns.map fun s => (⟨s.toArray⟩ : Str)).map V.str) := by
  cases d with
  | lst l =>
    obtain ⟨p, vs, rfl, a, r⟩ := h
    exact ⟨p, rfl, by rw [← strs_rds r e]; exact SqL.of a⟩
  | _ => cases e

def one (g : D → OR) : List D → OR | [x] => g x | _ => .bad
def two (g : D → D → OR) : List D → OR | [x, y] => g x y | _ => .bad
section
variable {X : Cx} {K : Fg} {I H : Hp}
theorem RCs.one {ds : List D} {xs : List V} {g : D → OR} {Q : VK} (h : RCs K I H ds xs) (q : OrQ K I H Q (one g ds)) : ∃ d x, xs = [x] ∧ RC K I H d x ∧ OrQ K I H Q (g d) := by
  cases h with
  | nil => exact q.elim
  | cons a b =>
    cases b with
    | nil => exact ⟨_, _, rfl, a, q⟩
    | cons c d => exact q.elim
theorem RVs.one {ds : List D} {xs : List V} {g : D → OR} {Q : VK} (h : RVs K H ds xs) (q : OrQ K I H Q (TL.one g ds)) : ∃ d x, xs = [x] ∧ RD K H d x ∧ OrQ K I H Q (g d) := by
  cases h with
  | nil => exact q.elim
  | cons a b =>
    cases b with
    | nil => exact ⟨_, _, rfl, a, q⟩
    | cons c d => exact q.elim
theorem RCs.two {ds : List D} {xs : List V} {g : D → D → OR} {Q : VK} (h : RCs K I H ds xs) (q : OrQ K I H Q (TL.two g ds)) : ∃ d e x y, xs = [x, y] ∧ RC K I H d x ∧ RC K I H e y ∧ OrQ K I H Q (g d e) := by
  cases h with
  | nil => exact q.elim
  | cons a b =>
    cases b with
    | nil => exact q.elim
    | cons c d =>
      cases d with
      | nil => exact ⟨_, _, _, _, rfl, a, c, q⟩
      | cons _ _ => exact q.elim
/-- len -/
def gLen : D → OR
  | .str s => if s.length ≤ lim then .val (.int s.length) else .bad
  | .lst l => .val (.int l.length)
  | .tup l => .val (.int l.length)
  | .scr ns => .val (.int ns.length)
  | _ => .bad
theorem cr_len : CallR X (.builtin "len") (rRn X.K (one gLen)) := CallR.imp call_len fun xs H Q h => by
  obtain ⟨I, ds, le, r, q⟩ := h
  obtain ⟨d, x, rfl, rx, q⟩ := r.one q
  cases d with
  | str s =>
    simp only [gLen] at q
    split at q
    · rename_i hs
      simp only [RD] at rx; subst rx
      refine ⟨_, _, rfl, ⟨by rw [str_len, lim_eq]; exact hs, rfl⟩, ?_⟩
      rw [str_len]
      exact q _ (by simp only [RD])
    · exact q.elim
  | lst l =>
    simp only [RD] at rx
    obtain ⟨p, vs, rfl, a, b⟩ := rx
    exact ⟨_, _, rfl, .inl ⟨vs, SqL.of a, rfl⟩, by rw [b.len]; exact q _ (by simp only [RD])⟩
  | tup l =>
    simp only [RD] at rx
    obtain ⟨p, vs, rfl, a, b⟩ := rx
    exact ⟨_, _, rfl, .inr ⟨vs, SqT.of a, rfl⟩, by rw [b.len]; exact q _ (by simp only [RD])⟩
  | scr ns =>
    simp only [RD] at rx
    obtain ⟨p, rfl, a⟩ := rx
    exact ⟨_, _, rfl, .inl ⟨_, a, rfl⟩, by rw [List.length_map]; exact q _ (by simp only [RD])⟩
  | _ => exact q.elim
/-- abs -/
def gAbs : D → OR
  | .int i => .val (.int (if i < 0 then -i else i))
  | _ => .bad
theorem cr_abs : CallR X (.builtin "abs") (rCn X.K (one gAbs)) := CallR.imp call_abs fun xs H Q h => by
  obtain ⟨I, ds, le, r, q⟩ := h
  obtain ⟨d, x, rfl, rx, q⟩ := r.one q
  cases d with
  | int i =>
    have rx : RD X.K I (.int i) x := rx
    simp only [RD] at rx; subst rx
    exact ⟨i, rfl, q _ (by simp only [RD])⟩
  | _ => exact q.elim
/-- int(..) of an int or a bool -/
def gInt : D → OR
  | .int i => .val (.int i)
  | .bl k => .val (.int (if k then 1 else 0))
  | _ => .bad
theorem cr_int : CallR X (.type "int") (rCn X.K (one gInt)) := CallR.imp call_int1 fun xs H Q h => by
  obtain ⟨I, ds, le, r, q⟩ := h
  obtain ⟨d, x, rfl, rx, q⟩ := r.one q
  cases d with
  | int i =>
    have rx : RD X.K I (.int i) x := rx
    simp only [RD] at rx; subst rx
    exact .inl ⟨i, rfl, q _ (by simp only [RD])⟩
  | bl i =>
    have rx : RD X.K I (.bl i) x := rx
    simp only [RD] at rx; subst rx
    exact .inr ⟨i, rfl, q _ (by simp only [RD])⟩
  | _ => exact q.elim
/-- sum, max, min of ints -/
def gSum (d : D) : OR := match intsL d with | some ns => .val (.int ns.sum) | none => .bad
def maxI : List Int → Option Int
  | [] => none
  | a :: l => some (l.foldl max a)
def minI : List Int → Option Int
  | [] => none
  | a :: l => some (l.foldl min a)
theorem foldl_max_ge (l : List Int) : ∀ a : Int, a ≤ l.foldl max a ∧ ∀ y ∈ l, y ≤ l.foldl max a := by
  induction l with
  | nil => intro a; simp
  | cons b l ih =>
    intro a
    obtain ⟨h1, h2⟩ := ih (max a b)
    refine ⟨by rw [List.foldl_cons]; omega, fun y hy => ?_⟩
    rcases List.mem_cons.mp hy with rfl | hy
    · rw [List.foldl_cons]; omega
    · exact h2 y hy
theorem foldl_max_mem (l : List Int) : ∀ a : Int, l.foldl max a ∈ a :: l := by
  induction l with
  | nil => intro a; simp
  | cons b l ih =>
    intro a
    rw [List.foldl_cons]
    rcases List.mem_cons.mp (ih (max a b)) with h | h
    · rw [h]
      by_cases hab : a ≤ b
      · rw [Int.max_eq_right hab]; simp
      · rw [Int.max_eq_left (by omega)]; simp
    · simp [h]
theorem foldl_min_le (l : List Int) : ∀ a : Int, l.foldl min a ≤ a ∧ ∀ y ∈ l, l.foldl min a ≤ y := by
  induction l with
  | nil => intro a; simp
  | cons b l ih =>
    intro a
    obtain ⟨h1, h2⟩ := ih (min a b)
    refine ⟨by rw [List.foldl_cons]; omega, fun y hy => ?_⟩
    rcases List.mem_cons.mp hy with rfl | hy
    · rw [List.foldl_cons]; omega
    · exact h2 y hy
theorem foldl_min_mem (l : List Int) : ∀ a : Int, l.foldl min a ∈ a :: l := by
  induction l with
  | nil => intro a; simp
  | cons b l ih =>
    intro a
    rw [List.foldl_cons]
    rcases List.mem_cons.mp (ih (min a b)) with h | h
    · rw [h]
      by_cases hab : a ≤ b
      · rw [Int.min_eq_left hab]; simp
      · rw [Int.min_eq_right (by omega)]; simp
    · simp [h]
def gMaxL (d : D) : OR := match intsL d with | some ns => (match maxI ns with | some m => .val (.int m) | none => .bad) | none => .bad
def gMinL (d : D) : OR := match intsL d with | some ns => (match minI ns with | some m => .val (.int m) | none => .bad) | none => .bad
theorem cr_sumC (hc : X.calm = true) : CallR X (.builtin "sum") (rCn X.K (one gSum)) := CallR.imp (cr_sum hc) fun xs H Q h => by
  obtain ⟨I, ds, le, r, q⟩ := h
  obtain ⟨d, x, rfl, rx, q⟩ := r.one q
  simp only [gSum] at q
  split at q
  · rename_i ns e
    obtain ⟨a, rfl, sq⟩ := intsL_rc le rx e
    exact ⟨a, ns, rfl, sq, q _ (by simp only [RD])⟩
  · exact q.elim
theorem cr_maxC (hc : X.calm = true) : CallR X (.builtin "max") (rCn X.K (one gMaxL)) := CallR.imp (cr_max hc) fun xs H Q h => by
  obtain ⟨I, ds, le, r, q⟩ := h
  obtain ⟨d, x, rfl, rx, q⟩ := r.one q
  simp only [gMaxL] at q
  split at q
  · rename_i ns e
    obtain ⟨a, rfl, sq⟩ := intsL_rc le rx e
    cases ns with
    | nil => exact q.elim
    | cons n l =>
      refine ⟨a, _, rfl, sq, by simp, fun m hm hle => ?_⟩
      have e2 : m = l.foldl max n := by
        have h1 := hle _ (foldl_max_mem l n)
        have h2 := (foldl_max_ge l n)
        rcases List.mem_cons.mp hm with rfl | hm
        · omega
        · have := h2.2 m hm; omega
      rw [e2]; exact q _ (by simp only [RD])
  · exact q.elim
theorem cr_minC (hc : X.calm = true) : CallR X (.builtin "min") (rCn X.K (one gMinL)) := CallR.imp (cr_min hc) fun xs H Q h => by
  obtain ⟨I, ds, le, r, q⟩ := h
  obtain ⟨d, x, rfl, rx, q⟩ := r.one q
  simp only [gMinL] at q
  split at q
  · rename_i ns e
    obtain ⟨a, rfl, sq⟩ := intsL_rc le rx e
    cases ns with
    | nil => exact q.elim
    | cons n l =>
      refine ⟨a, _, rfl, sq, by simp, fun m hm hle => ?_⟩
      have e2 : m = l.foldl min n := by
        have h1 := hle _ (foldl_min_mem l n)
        have h2 := (foldl_min_le l n)
        rcases List.mem_cons.mp hm with rfl | hm
        · omega
        · have := h2.2 m hm; omega
      rw [e2]; exact q _ (by simp only [RD])
  · exact q.elim
def gMax2 : D → D → OR | .int i, .int j => .val (.int (if j > i then j else i)) | _, _ => .bad
def gMin2 : D → D → OR | .int i, .int j => .val (.int (if j < i then j else i)) | _, _ => .bad
theorem cr_max2C (hc : X.calm = true) : CallR X (.builtin "max") (rCn X.K (two gMax2)) := CallR.imp (call_max2 hc) fun xs H Q h => by
  obtain ⟨I, ds, le, r, q⟩ := h
  obtain ⟨d, e, x, y, rfl, rx, ry, q⟩ := r.two q
  cases d with
  | int i =>
    cases e with
    | int j =>
      have rx : RD X.K I (.int i) x := rx
      have ry : RD X.K I (.int j) y := ry
      simp only [RD] at rx ry; subst rx ry
      exact ⟨i, j, rfl, q _ (by simp only [RD])⟩
    | _ => exact q.elim
  | _ => exact q.elim
theorem cr_min2C (hc : X.calm = true) : CallR X (.builtin "min") (rCn X.K (two gMin2)) := CallR.imp (call_min2 hc) fun xs H Q h => by
  obtain ⟨I, ds, le, r, q⟩ := h
  obtain ⟨d, e, x, y, rfl, rx, ry, q⟩ := r.two q
  cases d with
  | int i =>
    cases e with
    | int j =>
      have rx : RD X.K I (.int i) x := rx
      have ry : RD X.K I (.int j) y := ry
      simp only [RD] at rx ry; subst rx ry
      exact ⟨i, j, rfl, q _ (by simp only [RD])⟩
    | _ => exact q.elim
  | _ => exact q.elim
/-- all, any of bools -/
def gAll (d : D) : OR := match blsL d with | some ns => .val (.bl (ns.all id)) | none => .bad
def gAny (d : D) : OR := match blsL d with | some ns => .val (.bl (ns.any id)) | none => .bad
theorem cr_allC (hc : X.calm = true) : CallR X (.builtin "all") (rCn X.K (one gAll)) := CallR.imp (cr_all hc) fun xs H Q h => by
  obtain ⟨I, ds, le, r, q⟩ := h
  obtain ⟨d, x, rfl, rx, q⟩ := r.one q
  simp only [gAll] at q
  split at q
  · rename_i ns e
    obtain ⟨a, rfl, sq⟩ := blsL_rc le rx e
    exact ⟨a, ns, rfl, sq, q _ (by simp only [RD])⟩
  · exact q.elim
theorem cr_anyC (hc : X.calm = true) : CallR X (.builtin "any") (rCn X.K (one gAny)) := CallR.imp (cr_any hc) fun xs H Q h => by
  obtain ⟨I, ds, le, r, q⟩ := h
  obtain ⟨d, x, rfl, rx, q⟩ := r.one q
  simp only [gAny] at q
  split at q
  · rename_i ns e
    obtain ⟨a, rfl, sq⟩ := blsL_rc le rx e
    exact ⟨a, ns, rfl, sq, q _ (by simp only [RD])⟩
  · exact q.elim
end
end TL

set_option Elab.async false
set_option linter.all false
set_option autoImplicit false
set_option maxRecDepth 100000
set_option maxHeartbeats 4000000
namespace TL
open PySem PySem.Spec PyProof.Rows L2

/-! ## isinstance -/
def tyOf : D → String
  | .non => "NoneType" | .bl _ => "bool" | .int _ => "int" | .str _ => "str" | .lst _ => "list" | .tup _ => "tuple" | .scr _ => "list"
def isaTy (T t : String) : Bool := T == t || (T == "int" && t == "bool")
def isaT (T : String) (d : D) : Bool := isaTy T (tyOf d)
def sIsa (T : String) (f : SF) : SF := fun e => (f e).bind fun x e1 => match getv e1 x with | some d => .ok (.imm (.bl (isaT T d))) e1 | none => .bad
def sIsaLT (f : SF) : SF := fun e => (f e).bind fun x e1 => match getv e1 x with | some d => .ok (.imm (.bl (isaT "list" d || isaT "tuple" d))) e1 | none => .bad
def rIsaT (K : Fg) (T : String) : List V → Hp → VK → Prop := fun xs H Q => ∃ d v, xs = [v, .ty T] ∧ RD K H d v ∧ Q (.bl (isaT T d)) H
def rIsaLT (K : Fg) : List V → Hp → VK → Prop := fun xs H Q => ∃ d v p, xs = [v, .ref p] ∧ H p = some (.tup [.ty "list", .ty "tuple"]) ∧ RD K H d v ∧ Q (.bl (isaT "list" d || isaT "tuple" d)) H
theorem tyX_of {K : Fg} {H : Hp} {d : D} {v : V} (h : RD K H d v) : TyX K H v (.type (tyOf d)) := by
  cases d with
  | non => simp only [RD] at h; subst h; exact .base .non
  | bl b => simp only [RD] at h; subst h; exact .base (.bl b)
  | int b => simp only [RD] at h; subst h; exact .base (.int b)
  | str b => simp only [RD] at h; subst h; exact .base (.str _)
  | lst l => simp only [RD] at h; obtain ⟨p, vs, rfl, a, b⟩ := h; exact .base (.lst a)
  | tup l => simp only [RD] at h; obtain ⟨p, vs, rfl, a, b⟩ := h; exact .base (.tup a)
  | scr ns =>
    simp only [RD] at h
    obtain ⟨p, rfl, a⟩ := h
    rcases a with (a | ⟨o, a⟩) | ⟨o, _, _, a, c, _⟩
    · exact .base (.lst a)
    · exact .base (.frz a)
    · exact .kList a c
theorem kit_all : ∀ T ∈ ["int", "bool", "str", "list", "tuple"], ∀ t ∈ ["NoneType", "bool", "int", "str", "list", "tuple"], kitB t T = some (isaTy T t) := by decide +kernel
theorem kit_isa {K : Fg} {T : String} (hT : T ∈ ["int", "bool", "str", "list", "tuple"]) (d : D) : PySem.W.kitOne K (.type (tyOf d)) (.type T) = some (isaT T d) :=
  kit_ty (kit_all T hT (tyOf d) (by cases d <;> simp [tyOf]))
section
variable {X : Cx} {S : Srd} {f : SF} {σ : L2.St} {H : Hp} {Q : VK}
theorem cr_isa {T : String} (hT : T ∈ ["int", "bool", "str", "list", "tuple"]) : CallR X (.builtin "isinstance") (rIsaT X.K T) := CallR.imp call_isi fun xs H Q h => by
  obtain ⟨d, v, rfl, r, q⟩ := h
  exact ⟨v, .ty T, _, _, _, rfl, .ty T, tyX_of r, kit_isa hT d, q⟩
theorem cr_isaLT : CallR X (.builtin "isinstance") (rIsaLT X.K) := CallR.imp call_isiT fun xs H Q h => by
  obtain ⟨d, v, p, rfl, hp, r, q⟩ := h
  refine ⟨v, p, _, _, [.type "list", .type "tuple"], _, rfl, hp, .cons (.ty _) (.cons (.ty _) .nil), tyX_of r, ?_, q⟩
  exact kitAny_cons (kit_isa (by simp) d) (fun e => by
    rw [e, Bool.false_or]
    refine kitAny_cons (kit_isa (by simp) d) (fun e2 => by rw [e2]; rfl) fun e2 => e2) fun e => by rw [e]; rfl
theorem rd_isa {T : String} (h : rd S (sIsa T f) σ H Q) : tCB (rIsaT S.K T) (tCons (rd S f) (tCons (tC (.ty T)) tNil)) σ H Q := by
  obtain ⟨O, I, env, sr, P⟩ := h
  refine ⟨O, I, env, sr, (Post.bind P).imp fun x e1 I1 H1 st1 sr1 P1 v hv => ?_⟩
  cases q : getv e1 x with
  | none => simp only [q] at P1; exact P1.elim
  | some d =>
    simp only [q] at P1
    exact ⟨d, v, rfl, hv.rd sr1 q, P1 I1 H1 Stp.refl sr1 _ (show RD S.K I1 (.bl _) _ by simp only [RD])⟩
theorem rd_isaLT (h : rd S (sIsaLT f) σ H Q) : tCB (rIsaLT S.K) (tCons (rd S f) (tCons (tTup (tCons (tC (.ty "list")) (tCons (tC (.ty "tuple")) tNil))) tNil)) σ H Q := by
  obtain ⟨O, I, env, sr, P⟩ := h
  refine ⟨O, I, env, sr, (Post.bind P).imp fun x e1 I1 H1 st1 sr1 P1 v hv => ?_⟩
  cases q : getv e1 x with
  | none => simp only [q] at P1; exact P1.elim
  | some d =>
    simp only [q] at P1
    refine ⟨by decide, fun p hp => ⟨d, v, p, rfl, upd_same, (hv.rd sr1 q).mono (Le.new hp), ?_⟩⟩
    exact P1 I1 _ (Stp.newH hp) (sr1.newH hp) _ (show RD S.K I1 (.bl _) _ by simp only [RD])
end

/-! ## methods of texts and lists -/
def joinS (a : List Nat) : List (List Nat) → List Nat
  | [] => []
  | [p] => p
  | p :: q :: r => p ++ (a ++ joinS a (q :: r))
theorem joinS_fold (a : List Nat) : ∀ (l : List (List Nat)) (p acc : List Nat), (l.map fun s => (⟨s.toArray⟩ : Str)).foldl (fun acc q => acc ++ a.toArray ++ q.cps) (acc ++ p).toArray = (acc ++ joinS a (p :: l)).toArray
  | [], p, acc => by simp [joinS]
  | q :: r, p, acc => by
    rw [List.map_cons, List.foldl_cons]
    have e : (acc ++ p).toArray ++ a.toArray ++ (⟨q.toArray⟩ : Str).cps = ((acc ++ p ++ a) ++ q).toArray := by simp
    rw [e, joinS_fold a r q (acc ++ p ++ a)]
    simp [joinS, List.append_assoc]
theorem joinS_eq (a : List Nat) (l : List (List Nat)) : Txt.join ⟨a.toArray⟩ (l.map fun s => ⟨s.toArray⟩) = ⟨(joinS a l).toArray⟩ := by
  cases l with
  | nil => rfl
  | cons p r =>
    have h := joinS_fold a r p []
    simp only [List.nil_append] at h
    show (⟨_⟩ : Str) = _
    rw [← h]
    rfl
def strsOf : D → Option (List (List Nat))
  | .lst l => strsD l
  | .tup l => strsD l
  | _ => none
def gJoin1 : D → D → OR
  | .str a, y => (match strsOf y with | some l => if (l.map List.length).sum + l.length * a.length ≤ lim then .val (.str (joinS a l)) else .bad | none => .bad)
  | _, _ => .bad
def gJoin (x : D) : List D → OR := one (gJoin1 x)
def gCount1 : D → D → OR
  | .str a, .str [c] => .val (.int (a.count c))
  | _, _ => .bad
def gCount (x : D) : List D → OR := one (gCount1 x)
section
variable {X : Cx}
theorem mt_joinC : MtR X "str.join" (rCm X.K gJoin) := MtR.imp mt_join fun x xs H Q h => by
  obtain ⟨I, dx, ds, le, rx, rs, q⟩ := h
  obtain ⟨d, y, rfl, ry, q⟩ := rs.one q
  cases dx with
  | str a =>
    have rx : RD X.K I (.str a) x := rx
    simp only [RD] at rx; subst rx
    cases e2 : strsOf d with
    | none => simp only [gJoin1, e2] at q; exact q.elim
    | some l =>
      simp only [gJoin1, e2] at q
      by_cases hz : (l.map List.length).sum + l.length * a.length ≤ lim
      case neg => simp only [hz, if_false] at q; exact q.elim
      simp only [hz, if_true] at q
      have hz' : (((l.map fun s => (⟨s.toArray⟩ : Str)).map (·.length)).sum + (l.map fun s => (⟨s.toArray⟩ : Str)).length * (⟨a.toArray⟩ : Str).length) ≤ 16777216 := by
        rw [List.map_map, List.length_map, str_len]
        exact hz
      cases d with
      | lst m =>
        obtain ⟨p, vs, rfl, hp, r⟩ := ry
        refine ⟨_, p, l.map fun s => ⟨s.toArray⟩, rfl, rfl, .inl ?_, hz', ?_⟩
        · rw [← strs_rds r e2]; exact SqL.of hp
        · rw [joinS_eq]; exact q _ (by simp only [RD])
      | tup m =>
        have ry : RD X.K I (.tup m) y := ry
        simp only [RD] at ry
        obtain ⟨p, vs, rfl, hp, r⟩ := ry
        refine ⟨_, p, l.map fun s => ⟨s.toArray⟩, rfl, rfl, .inr ?_, hz', ?_⟩
        · rw [← strs_rds r e2]; exact SqT.of (le _ _ hp)
        · rw [joinS_eq]; exact q _ (by simp only [RD])
      | _ => cases e2
  | _ => exact q.elim
theorem mt_countC : MtR X "str.count" (rCm X.K gCount) := MtR.imp mt_count fun x xs H Q h => by
  obtain ⟨I, dx, ds, le, rx, rs, q⟩ := h
  obtain ⟨d, y, rfl, ry, q⟩ := rs.one q
  cases dx with
  | str a =>
    cases d with
    | str z =>
      match z, ry, q with
      | [], _, q => exact q.elim
      | _ :: _ :: _, _, q => exact q.elim
      | [c], ry, q =>
        have rx : RD X.K I (.str a) x := rx
        have ry : RD X.K I (.str [c]) y := ry
        simp only [RD] at rx ry; subst rx ry
        refine ⟨_, _, rfl, rfl, ?_⟩
        rw [show (⟨[c].toArray⟩ : Str) = ⟨#[c]⟩ from rfl, count_one a c]
        exact q _ (by simp only [RD])
    | _ => exact q.elim
  | _ => exact q.elim
end
end TL

set_option Elab.async false
set_option linter.all false
set_option autoImplicit false
set_option maxRecDepth 100000
set_option maxHeartbeats 4000000
namespace TL
open PySem PySem.Spec PyProof.Rows L2

/-! ## the least and the greatest text -/
def minS (x : List Nat) (l : List (List Nat)) : List Nat := l.foldl (fun a y => if y < a then y else a) x
def maxS (x : List Nat) (l : List (List Nat)) : List Nat := l.foldl (fun a y => if a < y then y else a) x
abbrev pyS (s : List Nat) : PyData := .str ⟨s.toArray⟩
theorem minS_py (l : List (List Nat)) : ∀ x : List Nat, PySem.W.minD (pyS x) (l.map pyS) = pyS (minS x l) := by
  unfold PySem.W.minD minS
  induction l with
  | nil => intro x; rfl
  | cons y l ih =>
    intro x
    rw [List.map_cons, List.foldl_cons, List.foldl_cons, PySem.W.dataLt_str]
    by_cases h : y < x
    · simp only [h, if_true, decide_true]; exact ih y
    · simp only [h, if_false, decide_false, Bool.false_eq_true]; exact ih x
theorem maxS_py (l : List (List Nat)) : ∀ x : List Nat, PySem.W.maxD (pyS x) (l.map pyS) = pyS (maxS x l) := by
  unfold PySem.W.maxD maxS
  induction l with
  | nil => intro x; rfl
  | cons y l ih =>
    intro x
    rw [List.map_cons, List.foldl_cons, List.foldl_cons, PySem.W.dataLt_str]
    by_cases h : x < y
    · simp only [h, if_true, decide_true]; exact ih y
    · simp only [h, if_false, decide_false, Bool.false_eq_true]; exact ih x
theorem strs_alike (l : List (List Nat)) : PySem.W.AlikeAll (l.map pyS) := by
  refine ⟨fun x hx y hy => ?_, fun x hx => ?_⟩
  · obtain ⟨a, _, rfl⟩ := List.mem_map.mp hx
    obtain ⟨b, _, rfl⟩ := List.mem_map.mp hy
    rfl
  · obtain ⟨a, _, rfl⟩ := List.mem_map.mp hx
    intro z; cases z
theorem strs_depth : ∀ l : List (List Nat), PyData.depthAll (l.map pyS) = 0
  | [] => rfl
  | n :: ns => by simp only [List.map_cons, PyData.depthAll, PyData.depth, strs_depth ns]; rfl
theorem reads_strs {h : Heap} : ∀ {ns : List (List Nat)} {us : List Value}, Vals ((ns.map fun s => (⟨s.toArray⟩ : Str)).map V.str) us → ReadsAll h us (ns.map pyS) []
  | [], us, r => by cases r; exact .nil
  | n :: ns, us, r => by
    cases r with
    | cons a b =>
      obtain ⟨t, rfl⟩ := a
      exact ReadsAll.cons (as := []) (bs := []) (.str _ t) (reads_strs b)
theorem reads_str_rel {h : Heap} {v : Value} {m : List Nat} {bs : List Addr} (r : Reads h v (pyS m) bs) : RelV (.str ⟨m.toArray⟩) v := by
  cases r with
  | str _ t => exact ⟨t, rfl⟩
section
variable {X : Cx} {K : Fg}
def rMinS (K : Fg) : List V → Hp → VK → Prop := fun xs H Q => ∃ a x l, xs = [.ref a] ∧ SqL K H a (((x :: l).map fun s => (⟨s.toArray⟩ : Str)).map V.str) ∧ Q (.str ⟨(minS x l).toArray⟩) H
def rMaxS (K : Fg) : List V → Hp → VK → Prop := fun xs H Q => ∃ a x l, xs = [.ref a] ∧ SqL K H a (((x :: l).map fun s => (⟨s.toArray⟩ : Str)).map V.str) ∧ Q (.str ⟨(maxS x l).toArray⟩) H
theorem cr_minS (g : Gd X) : CallR X (.builtin "min") (rMinS X.K) := by
  intro pins s σ H xs us Q I r h
  obtain ⟨a, x, l, rfl, hs, q⟩ := h
  obtain ⟨its, rv, hl, _⟩ := I.list hs
  rw [Vals.ref1 r]
  have ra := reads_strs (h := s.heap) rv
  refine PySem.W.min_list_data (x := pyS x) (xs := l.map pyS) (I.ok.hd g.hc) hl.isList (by simpa using ra) (by simpa using strs_alike (x :: l)) (by have := strs_depth (x :: l); rw [List.map_cons] at this; rw [this]; have := g.hu; omega) fun i v h' tk bs hi rd hk => ?_
  rw [minS_py] at rd
  exact ⟨_, H, I.kept hk, reads_str_rel rd, q⟩
theorem cr_maxS (g : Gd X) : CallR X (.builtin "max") (rMaxS X.K) := by
  intro pins s σ H xs us Q I r h
  obtain ⟨a, x, l, rfl, hs, q⟩ := h
  obtain ⟨its, rv, hl, _⟩ := I.list hs
  rw [Vals.ref1 r]
  have ra := reads_strs (h := s.heap) rv
  refine PySem.W.max_list_data (x := pyS x) (xs := l.map pyS) (I.ok.hd g.hc) hl.isList (by simpa using ra) (by simpa using strs_alike (x :: l)) (by have := strs_depth (x :: l); rw [List.map_cons] at this; rw [this]; have := g.hu; omega) fun i v h' tk bs hi rd hk => ?_
  rw [maxS_py] at rd
  exact ⟨_, H, I.kept hk, reads_str_rel rd, q⟩
def gMinSL (d : D) : OR := match strsL d with | some (x :: l) => .val (.str (minS x l)) | _ => .bad
def gMaxSL (d : D) : OR := match strsL d with | some (x :: l) => .val (.str (maxS x l)) | _ => .bad
theorem cr_minSC (g : Gd X) : CallR X (.builtin "min") (rCn X.K (one gMinSL)) := CallR.imp (cr_minS g) fun xs H Q h => by
  obtain ⟨I, ds, le, r, q⟩ := h
  obtain ⟨d, x, rfl, rx, q⟩ := r.one q
  cases e : strsL d with
  | none => simp only [gMinSL, e] at q; exact q.elim
  | some ns =>
    obtain ⟨a, rfl, sq⟩ := strsL_rc le rx e
    cases ns with
    | nil => simp only [gMinSL, e] at q; exact q.elim
    | cons n l =>
      simp only [gMinSL, e] at q
      exact ⟨a, n, l, rfl, sq, q _ (by simp only [RD])⟩
theorem cr_maxSC (g : Gd X) : CallR X (.builtin "max") (rCn X.K (one gMaxSL)) := CallR.imp (cr_maxS g) fun xs H Q h => by
  obtain ⟨I, ds, le, r, q⟩ := h
  obtain ⟨d, x, rfl, rx, q⟩ := r.one q
  cases e : strsL d with
  | none => simp only [gMaxSL, e] at q; exact q.elim
  | some ns =>
    obtain ⟨a, rfl, sq⟩ := strsL_rc le rx e
    cases ns with
    | nil => simp only [gMaxSL, e] at q; exact q.elim
    | cons n l =>
      simp only [gMaxSL, e] at q
      exact ⟨a, n, l, rfl, sq, q _ (by simp only [RD])⟩
/-- all forms of max and min -/
def gMin : List D → OR
  | [x] => (match intsL x with | some _ => gMinL x | none => gMinSL x)
  | [x, y] => gMin2 x y
  | _ => .bad
def gMax : List D → OR
  | [x] => (match intsL x with | some _ => gMaxL x | none => gMaxSL x)
  | [x, y] => gMax2 x y
  | _ => .bad
theorem cr_minAll (g : Gd X) : CallR X (.builtin "min") (rCn X.K gMin) := CallR.imp ((cr_minC g.hc).or ((cr_minSC g).or (cr_min2C g.hc))) fun xs H Q h => by
  obtain ⟨I, ds, le, r, q⟩ := h
  match ds, r, q with
  | [], _, q => exact q.elim
  | [x], r, q =>
    simp only [gMin] at q
    cases e : intsL x with
    | some ns => rw [e] at q; exact .inl ⟨I, [x], le, r, q⟩
    | none => rw [e] at q; exact .inr (.inl ⟨I, [x], le, r, q⟩)
  | [x, y], r, q => exact .inr (.inr ⟨I, [x, y], le, r, q⟩)
  | _ :: _ :: _ :: _, _, q => exact q.elim
theorem cr_maxAll (g : Gd X) : CallR X (.builtin "max") (rCn X.K gMax) := CallR.imp ((cr_maxC g.hc).or ((cr_maxSC g).or (cr_max2C g.hc))) fun xs H Q h => by
  obtain ⟨I, ds, le, r, q⟩ := h
  match ds, r, q with
  | [], _, q => exact q.elim
  | [x], r, q =>
    simp only [gMax] at q
    cases e : intsL x with
    | some ns => rw [e] at q; exact .inl ⟨I, [x], le, r, q⟩
    | none => rw [e] at q; exact .inr (.inl ⟨I, [x], le, r, q⟩)
  | [x, y], r, q => exact .inr (.inr ⟨I, [x, y], le, r, q⟩)
  | _ :: _ :: _ :: _, _, q => exact q.elim
end
end TL

set_option Elab.async false
set_option linter.all false
set_option autoImplicit false
set_option maxRecDepth 100000
set_option maxHeartbeats 4000000
namespace TL
open PySem PySem.Spec PyProof.Rows L2

/-! ## the end of a law -/
section
variable {P : Program} {w : World} {K : Fg} {mg mb : Str → Option Value} {CX : CXT} {k : Nat} {fa a : Addr} {fd : FuncData} {x : Str} {sp : Sp} {s1 : Shared} {vs : List Value} {ns : List Int}
/-- from a heap H that tells of the script at most -/
theorem end_core {H : Hp} (hIn : K.In s1.heap) (nm : s1.heap.Ns mainGlobals mg) (nb : s1.heap.Ns builtinsNs mb) (bb : ∀ x : Str, x ≠ "__name__" → mb x = bootBuiltins x) (nl : s1.heap.NoLimit) (hg : s1.gens = #[])
    (hobj : s1.heap.get? a = some { cls := .type "list", data := .seq vs.toArray }) (hr : Room k callerA)
    (F : ∀ base : Heap, K.In base → base.Ns mainGlobals mg → FnG P w K mg base CX k fa fd [x] sp) (hb : ∀ (s : Shared) (u : Value), BindsTo s fd ⟨[u], []⟩ [(x, u)])
    (hsp : sp [.ref a] H (fun v _ => v = .bl true) fun _ _ _ => False) (hCX : ∀ H e s', CX [] H s1 (fun _ _ _ => False) e s' → False)
    (only : Only H) (ok : HOk P w H s1.heap) (only_a : ∀ b, H b ≠ none → b = a) (ka : H a ≠ none → K.lookup a = none) :
    codeAny (model P w) callerA (.call (.ref fa) ⟨[.ref a], []⟩) (fun r s' => r = .ok (.ret (.bool true)) ∧ OldK s1.heap s'.heap ∧ s'.os = s1.os ∧ AllBare s'.gens) s1 := by
  have dict0 : ∀ {b : Addr} {o : Obj} {es : Array DictEntry} {ep : Nat}, s1.heap.get? b = some o → o.data = .dict es ep → H b = none := fun {b o es ep} e d => by
    cases q : H b with
    | none => rfl
    | some u =>
      rw [only_a b (by rw [q]; simp), hobj] at e
      cases e; cases d
  have toNs : ∀ {b : Addr} {m : Str → Option Value}, s1.heap.Ns b m → (hidT s1.heap H).Ns b m := fun {b m} ⟨o, es, ep, e, d, r⟩ => ⟨o, es, ep, hidT_get e (dict0 e d), d, r⟩
  have inB : K.In (hidT s1.heap H) := fun b o e => hidT_get (hIn b o e) (by
    cases q : H b with
    | none => rfl
    | some u =>
      have z := only_a b (by rw [q]; simp)
      rw [z] at e q
      rw [ka (by rw [q]; simp)] at e
      cases e)
  have md : Mod K mg (hidT s1.heap H) := ⟨inB, toNs nm, ⟨mb, toNs nb, bb⟩, let ⟨mc, h1, h2⟩ := nl; ⟨mc, toNs h1, h2⟩⟩
  have e0 : Env0 P w K mg (hidT s1.heap H) callerA [] s1 H := ⟨rfl, md, fun b o e => of_hidT e, Nat.le_of_eq (hidT_size _ _), trivial, fun b hb => (by cases hb), ok, .of_eq hg⟩
  refine codeAny_mono ((F _ inB (toNs nm)).run callerA [] s1 H ⟨[.ref a], []⟩ [.ref a] [.ref a] _ _ hr rfl e0 (hb s1 (.ref a)) (.cons rfl .nil) hsp) fun r s' h => ?_
  match r, h with
  | .error e, h => exact (hCX H e s' h).elim
  | .ok .next, h => exact h.elim
  | .ok .brk, h => exact h.elim
  | .ok .cont, h => exact h.elim
  | .ok (.ret u), h =>
    obtain ⟨v, H', os, bare, un, ok', rv, q⟩ := h
    have q : v = .bl true := q
    subst q
    obtain rfl : u = Value.bool true := rv
    refine ⟨rfl, OldK.of_keep fun b o e => ?_, os, bare⟩
    cases q : H b with
    | none => exact un.keep b o e q (fun z => by cases z) (by simp)
    | some u =>
      rcases only b with z | ⟨ob, xs, z⟩
      · rw [q] at z; cases z
      · obtain ⟨g1, _⟩ := ok b _ z
        obtain ⟨g2, _⟩ := ok' b _ (un.frzs b ob _ z)
        rw [e] at g1; cases g1
        exact g2
theorem end_call (hIn : K.In s1.heap) (nm : s1.heap.Ns mainGlobals mg) (nb : s1.heap.Ns builtinsNs mb) (bb : ∀ x : Str, x ≠ "__name__" → mb x = bootBuiltins x) (nl : s1.heap.NoLimit) (hg : s1.gens = #[])
    (hobj : s1.heap.get? a = some { cls := .type "list", data := .seq vs.toArray }) (hi : IntsAre vs ns) (hl : ns.length ≤ sizeLine) (hr : Room k callerA)
    (F : ∀ base : Heap, K.In base → base.Ns mainGlobals mg → FnG P w K mg base CX k fa fd [x] sp) (hb : ∀ (s : Shared) (u : Value), BindsTo s fd ⟨[u], []⟩ [(x, u)])
    (hsp : ∀ H : Hp, Only H → SqL K H a (ns.map V.int) → sp [.ref a] H (fun v _ => v = .bl true) fun _ _ _ => False) (hCX : ∀ H e s', CX [] H s1 (fun _ _ _ => False) e s' → False) :
    codeAny (model P w) callerA (.call (.ref fa) ⟨[.ref a], []⟩) (fun r s' => r = .ok (.ret (.bool true)) ∧ OldK s1.heap s'.heap ∧ s'.os = s1.os ∧ AllBare s'.gens) s1 := by
  have rv := vals_ints hi
  have lv := hi.length
  cases q : K.lookup a with
  | some o =>
    have e := hIn a o q
    rw [hobj] at e
    cases e
    exact end_core (H := fun _ => none) hIn nm nb bb nl hg hobj hr F hb (hsp _ (fun _ => .inl rfl) (.inr ⟨_, vs.toArray, _, q, rfl, rfl, rfl, by rw [List.size_toArray, lv]; exact hl, by simpa using rv⟩)) hCX
      (fun _ => .inl rfl) (fun b u z => by cases z) (fun b z => absurd rfl z) fun z => absurd rfl z
  | none =>
    let T : Hp := fun b => if b = a then some (.frz { cls := .type "list", data := .seq vs.toArray } (.lst (ns.map V.int))) else none
    have Ta : T a = some (.frz { cls := .type "list", data := .seq vs.toArray } (.lst (ns.map V.int))) := if_pos rfl
    have Tn : ∀ b, b ≠ a → T b = none := fun b h => if_neg h
    have T1 : Only T := fun b => by
      by_cases h : b = a
      · rw [h]; exact .inr ⟨_, _, Ta⟩
      · exact .inl (Tn b h)
    refine end_core (H := T) hIn nm nb bb nl hg hobj hr F hb (hsp T T1 (.inl (.inr ⟨_, Ta⟩))) hCX T1 (fun b u z => ?_) (fun b z => ?_) fun _ => q
    · by_cases h : b = a
      · rw [h, Ta] at z
        cases z
        rw [h]
        exact ⟨hobj, by rw [List.length_map]; exact hl, vs, _, rv, hobj⟩
      · rw [Tn b h] at z; cases z
    · by_cases h : b = a
      · exact h
      · exact absurd (Tn b h) z
end
/-- the law's def -/
theorem end_F {P : Program} {w : World} {K : Fg} {mg : Str → Option Value} {CX : CXT} {k : Nat} {fa : Addr} {x y : Str} {st : Stmt} {sp : Sp} (hD : ∃ f fd, Df K mg x st f fd) (hmg : mg x = some (.ref fa)) (hb : BindsP x st [y]) (hC : ∀ base : Heap, CalG P w K mg base CX k x st [y] sp) :
    ∃ fd : FuncData, (∀ (s : Shared) (u : Value), BindsTo s fd ⟨[u], []⟩ [(y, u)]) ∧ ∀ base : Heap, K.In base → base.Ns mainGlobals mg → FnG P w K mg base CX k fa fd [y] sp := by
  obtain ⟨f, fd, F⟩ := hD
  obtain rfl : f = fa := by have e := F.mgf.symm.trans hmg; cases e; rfl
  refine ⟨fd, fun s u => ?_, fun base _ _ => ?_⟩
  · obtain ⟨kV, doc, pm, an, cdv, ct, rfl⟩ := F.isFn
    exact .of_eq (hb kV doc pm an cdv ct [u] rfl)
  · obtain ⟨f', fd', F', h⟩ := (hC base).df
    obtain rfl : f' = f := by have e := F'.mgf.symm.trans F.mgf; cases e; rfl
    obtain ⟨oc, od, kV, doc, pm, an, cdv, ct, osl, e1, l1, _⟩ := F.ex
    obtain ⟨oc', od', kV', doc', pm', an', cdv', ct', osl', e1', l1', _⟩ := F'.ex
    have e := l1.symm.trans l1'
    injection e with e
    injection e with _ _ e _
    injection e with e
    rw [e]; exact h
theorem df_mk {K : Fg} {h : Heap} {mg : Str → Option Value} {x : Str} {st : Stmt} {f : Addr} {oc : Value} {od an : Option Addr} {osl : Array (Option Value)} {kV doc pm cdv ct : Value} (X : K.In h) (G : h.Ns mainGlobals mg) (a : PySem.W.nsIn K mainGlobals x = some (some (.ref f)))
    (l : K.lookup f = some ⟨oc, od, .func (PySem.W.fnOf x x (C8.fnArgs st) (C8.fnBody st) (C8.fnScope st) .none kV doc pm an cdv ct), osl⟩) (c : PySem.W.codeIn K cdv x = true) (k : PySem.W.keepIn K (.ref f) = true) : ∃ f fd, Df K mg x st f fd :=
  ⟨f, _, ⟨⟨oc, od, kV, doc, pm, an, cdv, ct, osl, rfl, l, c⟩, PySem.W.mg_of X G a, k⟩⟩
theorem int_mk {K : Fg} {h : Heap} {mg : Str → Option Value} {x : Str} {z : Int} {u : Value} (X : K.In h) (G : h.Ns mainGlobals mg) (a : PySem.W.nsIn K mainGlobals x = some (some u)) (r : RelV (.int z) u) : ∃ t, mg x = some (.int z t) := by
  obtain ⟨t, rfl⟩ := r
  exact ⟨t, PySem.W.mg_of X G a⟩
theorem str_mk {K : Fg} {h : Heap} {mg : Str → Option Value} {x : Str} {s : Array Nat} {u : Value} (X : K.In h) (G : h.Ns mainGlobals mg) (a : PySem.W.nsIn K mainGlobals x = some (some u)) (r : RelV (.str ⟨s⟩) u) : ∃ t, mg x = some (.str ⟨s⟩ t) := by
  obtain ⟨t, rfl⟩ := r
  exact ⟨t, PySem.W.mg_of X G a⟩
/-- the walk of a law whose promise is of this layer -/
theorem end_walk {l : PySem.W.OpenLaw} {n k : Nat} {q : Program} {loose : List Str} {XP : (Str → Option Value) → Heap → Prop} {YP : World → Heap → Prop} {d : DefRec} {K : Params → Fg} {CX : World → CXT} {ca : World → CaT} {sem : List D → FO} {x : Str}
    (hn : l.most = some n) (hn2 : n ≤ sizeLine) (hdf : d.params.defaults = []) (hr : Room k callerA) (hY : ∀ (w : World) (h : Heap), YP w h → (K w.params).In h)
    (F : ∀ (w : World) (mg : Str → Option Value) (fa : Addr) (h : Heap), (K w.params).In h → h.Ns mainGlobals mg → mg d.name = some (.ref fa) →
      ∃ fd : FuncData, (∀ (s : Shared) (u : Value), BindsTo s fd ⟨[u], []⟩ [(x, u)]) ∧
        ∀ base : Heap, (K w.params).In base → base.Ns mainGlobals mg → FnG l.prog w (K w.params) mg base (CX w) k fa fd [x] (spP (K w.params) (ca w) 1 sem))
    (law : ∀ ns : List Int, ns.length ≤ n → sem [.scr ns] = .ret (.imm (.bl true)))
    (hCX : ∀ (w : World) (H : Hp) (s : Shared) (e : Value) (s' : Shared), CX w [] H s (fun _ _ _ => False) e s' → False) :
    PySem.W.WalkO q loose XP YP l.row.toRowW d [] (fun f vs => PySem.call f vs) := by
  refine Att.attach_call hn hdf fun w s0 s1 mg mb fa o pm cd doc a vs ns G Y ho hd hcd hmg hobj hints hlen hg => ?_
  have hIn := hY w _ Y
  obtain ⟨fd, hb, hF⟩ := F w mg fa _ hIn G.T.g hmg
  refine end_call hIn G.T.g G.T.b G.T.builtins G.T.nolimit hg hobj hints (Nat.le_trans hlen hn2) hr hF hb (fun H _ hS => ⟨rfl, H, [.scr ns], Le.rfl', RDs.cons (by simp only [RD]; exact ⟨a, rfl, hS⟩) RDs.nil, ?_⟩) fun H e s' => hCX w H s1 e s'
  rw [law ns hlen]
  intro I' H' v _ _ r
  have r : RD (K w.params) I' (.bl true) v := r
  simpa only [RD] using r
end TL

set_option Elab.async false
set_option linter.all false
set_option autoImplicit false
set_option maxRecDepth 100000
set_option maxHeartbeats 4000000
namespace TL
open PySem PySem.Spec PyProof.Rows L2

/-! ## one rule a construct -/
abbrev SX (X : Cx) (ca : CaT) (W : WX) : Srd := ⟨X.K, ca, W⟩
def tBool (f : SF) : SB := fun e => (f e).bind fun x e1 => match x with | .imm (.bl b) => .ok b e1 | _ => .bad
/-- a op b op' c -/
def sChn (g h : D → D → OR) (fa fb fc : SF) : SF := fun e => (fa e).bind fun x e1 => (fb e1).bind fun y e2 => match getc e2 x, getc e2 y with
  | some dx, some dy => (match g dx dy with
    | .val (.bl true) => (fc e2).bind fun z e3 => (match getc e3 y, z with | some dy', .imm dz => orV (h dy' dz) e3 | _, _ => .bad)
    | .val (.bl false) => .ok (.imm (.bl false)) e2
    | _ => .bad)
  | _, _ => .bad
theorem gl_of {X : Cx} {x : Str} (h : X.env.kindOf x = some .globalImplicit) : Gl X x := h
theorem Gd.blk {X : Cx} (g : Gd X) {s : Shared} {H : Hp} {scope : Scope} {cenv : PySem.Env} {fp : List Addr} : Gd (X.blk s H scope cenv fp) := ⟨g.hu, g.hg, g.hc, g.hh⟩
section
variable {S : Srd} {σ : L2.St} {H : Hp}
theorem rdT_bool {f : SF} {Q : Bool → Hp → Prop} (h : rdT S (tBool f) σ H Q) : tTest (rd S f) σ H Q := by
  obtain ⟨O, I, env, sr, P⟩ := h
  refine ⟨O, I, env, sr, (Post.bind P).imp fun x e1 I1 H1 st1 sr1 P1 v hv => ?_⟩
  cases x with
  | cell l => exact P1.elim
  | deep t => exact P1.elim
  | view j => exact P1.elim
  | imm dk =>
    cases dk with
    | bl b =>
      have hv : RD S.K I1 (.bl b) v := hv
      simp only [RD] at hv
      exact ⟨b, hv, P1 I1 H1 Stp.refl sr1⟩
    | _ => exact P1.elim
/-- slots whose value is a tree: chains of comparisons of plain values -/
theorem rd_chn {g h : D → D → OR} {fa fb fc : SF} {r r' : R2} {Q : VK} (hr : ∀ x y H Q, rC2 S.K g x y H Q → r x y H Q) (hr' : ∀ x y H Q, rC2 S.K h x y H Q → r' x y H Q) (hh : rd S (sChn g h fa fb fc) σ H Q) : tChain r r' (rd S fa) (rd S fb) (rd S fc) σ H Q := by
  obtain ⟨O, I, env, sr, P⟩ := hh
  refine ⟨O, I, env, sr, (Post.bind P).imp fun x e1 I1 H1 st1 sr1 P1 v hv => ?_⟩
  refine ⟨O, I1, e1, sr1, (Post.bind P1).imp fun y e2 I2 H2 st2 sr2 P2 w hw => ?_⟩
  have hv := hv.step sr.oh st2
  cases qx : getc e2 x with
  | none => simp only [qx] at P2; exact P2.elim
  | some dx =>
    cases qy : getc e2 y with
    | none => simp only [qx, qy] at P2; exact P2.elim
    | some dy =>
      simp only [qx, qy] at P2
      refine hr _ _ _ _ ⟨I2, dx, dy, sr2.ext, hv.rc sr2 qx, hw.rc sr2 qy, ?_⟩
      cases qg : g dx dy with
      | bad => simp only [qg] at P2; exact P2.elim
      | new l => simp only [qg] at P2; exact P2.elim
      | newt l => simp only [qg] at P2; exact P2.elim
      | val d =>
        cases d with
        | bl b =>
          simp only [qg] at P2
          intro z hz
          simp only [RD] at hz; subst hz
          refine ⟨b, rfl, ?_⟩
          cases b with
          | false =>
            rw [if_neg (by decide)]
            exact P2 I2 H2 Stp.refl sr2 _ (show RD S.K I2 (.bl false) _ by simp only [RD])
          | true =>
            rw [if_pos rfl]
            refine ⟨O, I2, e2, sr2, (Post.bind P2).imp fun zz e3 I3 H3 st3 sr3 P3 u hu => ?_⟩
            cases qy3 : getc e3 y with
            | none => simp only [qy3] at P3; exact P3.elim
            | some dy' =>
              cases zz with
              | cell l => simp only [qy3] at P3; exact P3.elim
              | deep t => simp only [qy3] at P3; exact P3.elim
              | view j => simp only [qy3] at P3; exact P3.elim
              | imm dz =>
                simp only [qy3] at P3
                exact hr' _ _ _ _ ⟨I3, dy', dz, sr3.ext, (hw.step sr1.oh st3).rc sr3 qy3, RC.of_RD sr3.ext hu, orQ_of sr3 (fun a z => (st1.tr (st2.tr st3)).gone z) P3⟩
        | _ => simp only [qg] at P2; exact P2.elim
end

section
variable {X : Cx} {ca : CaT} {W : WX} {P : List Nat} {fa fb fc f : SF} {fr fk : SD} {ft gt : SB} {i j n : Nat} {x : Str} {pos p p2 p3 : Pos} {a b c e : Expr} {es : List Expr} {k0 : Nat}
/-! ### names and constants -/
theorem r_var (hN : X.N[i]? = some x) (hv : Vis X.env.scope x) (hd : (x == ("__debug__" : Str)) = false := by decide) (hcd : (x == ("__classdict__" : Str)) = false := by decide) : PE X (.Name x pos) (rd (SX X ca W) (sVar i)) := PE.imp (pe_var hN hv hd hcd) fun _ _ _ h => rd_var h
theorem r_own (hN : X.N[i]? = some x) (hv : Vis X.env.scope x) (hd : (x == ("__debug__" : Str)) = false := by decide) (hcd : (x == ("__classdict__" : Str)) = false := by decide) : PE X (.Name x pos) (rd (SX X ca W) (sOwn i)) := PE.imp (pe_var hN hv hd hcd) fun _ _ _ h => rd_own h
theorem r_int {z : Int} : PE X (.Constant (.int z) k0 pos) (rd (SX X ca W) (sC (.int z))) := PE.imp pe_int fun _ _ _ h => rd_c (fun _ => by simp only [RD]) h
theorem r_bl {z : Bool} : PE X (.Constant (.bool z) k0 pos) (rd (SX X ca W) (sC (.bl z))) := PE.imp pe_bl fun _ _ _ h => rd_c (fun _ => by simp only [RD]) h
theorem r_non : PE X (.Constant .none k0 pos) (rd (SX X ca W) (sC .non)) := PE.imp pe_non fun _ _ _ h => rd_c (fun _ => by simp only [RD]) h
theorem r_str {s : List Nat} (h : x = ⟨s.toArray⟩) : PE X (.Constant (.str x) k0 pos) (rd (SX X ca W) (sC (.str s))) := PE.imp pe_str fun _ _ _ q => rd_c (fun _ => by simp only [RD, h]) q
/-- a number, a text of the module -/
theorem r_gint {z : Int} {t : Tok} (hg : Gl X x) (hm : X.mg x = some (.int z t)) (hd : (x == ("__debug__" : Str)) = false := by decide) : PE X (.Name x pos) (rd (SX X ca W) (sC (.int z))) := PE.imp (pe_glob (v := .int z) hg hm ⟨t, rfl⟩ hd) fun _ _ _ h => rd_c (fun _ => by simp only [RD]) h
theorem r_gstr {s : List Nat} {t : Tok} (hg : Gl X x) (hm : X.mg x = some (.str ⟨s.toArray⟩ t)) (hd : (x == ("__debug__" : Str)) = false := by decide) : PE X (.Name x pos) (rd (SX X ca W) (sC (.str s))) := PE.imp (pe_glob (v := .str ⟨s.toArray⟩) hg hm ⟨t, rfl⟩ hd) fun _ _ _ h => rd_c (fun _ => by simp only [RD]) h
/-! ### operators -/
theorem r_op {op : Operator} {g : D → D → OR} (ho : OpR X (binaryOp op) (rC2 X.K g)) (ha : PE X a (rd (SX X ca W) fa)) (hb : PE X b (rd (SX X ca W) fb)) : PE X (.BinOp a op b pos) (rd (SX X ca W) (sC2 g fa fb)) := PE.imp (pe_op ho ha hb) fun _ _ _ h => rd_C2 (fun _ _ _ _ z => z) h
theorem r_neg (ha : PE X a (rd (SX X ca W) fa)) : PE X (.UnaryOp .USub a pos) (rd (SX X ca W) (sC1 gNeg fa)) := PE.imp (pe_un un_negC ha) fun _ _ _ h => rd_C1 (fun _ _ _ z => z) h
theorem r_cmpC {op : CmpOp} {g : D → D → OR} (ho : OpR X (compareOp op) (rC2 X.K g)) (ha : PE X a (rd (SX X ca W) fa)) (hb : PE X b (rd (SX X ca W) fb)) (hm : behindInMarks op b = false) : PE X (.Compare a [op] [b] pos) (rd (SX X ca W) (sC2 g fa fb)) := PE.imp (pe_cmpR ho ha hb hm) fun _ _ _ h => rd_C2 (fun _ _ _ _ z => z) h
theorem r_cmpR {op : CmpOp} {g : D → D → OR} (ho : OpR X (compareOp op) (rR2 X.K g)) (ha : PE X a (rd (SX X ca W) fa)) (hb : PE X b (rd (SX X ca W) fb)) (hm : behindInMarks op b = false) : PE X (.Compare a [op] [b] pos) (rd (SX X ca W) (sR2 g fa fb)) := PE.imp (pe_cmpR ho ha hb hm) fun _ _ _ h => rd_R2 (fun _ _ _ _ z => z) h
theorem t_cmpC {op : CmpOp} {g : D → D → OR} (ho : OpR X (compareOp op) (rC2 X.K g)) (ha : PE X a (rd (SX X ca W) fa)) (hb : PE X b (rd (SX X ca W) fb)) (hm : behindInMarks op b = false) : PT X (.Compare a [op] [b] pos) (rdT (SX X ca W) (tBool (sC2 g fa fb))) := PT.imp (pt_cmpR ho ha hb hm) fun _ _ _ h => by
  have q := rdT_bool h
  exact rd_C2 (fun _ _ _ _ z => z) q
theorem t_cmpR {op : CmpOp} {g : D → D → OR} (ho : OpR X (compareOp op) (rR2 X.K g)) (ha : PE X a (rd (SX X ca W) fa)) (hb : PE X b (rd (SX X ca W) fb)) (hm : behindInMarks op b = false) : PT X (.Compare a [op] [b] pos) (rdT (SX X ca W) (tBool (sR2 g fa fb))) := PT.imp (pt_cmpR ho ha hb hm) fun _ _ _ h => by
  have q := rdT_bool h
  exact rd_R2 (fun _ _ _ _ z => z) q
theorem r_chn {op op' : CmpOp} {g h : D → D → OR} (ho : OpR X (compareOp op) (rC2 X.K g)) (ho' : OpR X (compareOp op') (rC2 X.K h)) (ha : PE X a (rd (SX X ca W) fa)) (hb : PE X b (rd (SX X ca W) fb)) (hc : PE X c (rd (SX X ca W) fc))
    (hm : lastMarks [op, op'] [b, c] = false := by with_unfolding_all rfl) : PE X (.Compare a [op, op'] [b, c] pos) (rd (SX X ca W) (sChn g h fa fb fc)) := PE.imp (pe_chain ho ho' ha hb hc hm) fun _ _ _ q => rd_chn (fun _ _ _ _ z => z) (fun _ _ _ _ z => z) q
theorem t_chn {op op' : CmpOp} {g h : D → D → OR} (ho : OpR X (compareOp op) (rC2 X.K g)) (ho' : OpR X (compareOp op') (rC2 X.K h)) (ha : PE X a (rd (SX X ca W) fa)) (hb : PE X b (rd (SX X ca W) fb)) (hc : PE X c (rd (SX X ca W) fc))
    (hm : lastMarks [op, op'] [b, c] = false := by with_unfolding_all rfl) : PT X (.Compare a [op, op'] [b, c] pos) (rdT (SX X ca W) (tBool (sChn g h fa fb fc))) := PT.imp (pt_chain ho ho' ha hb hc hm) fun _ _ _ q => by
  have q := rdT_bool q
  exact rd_chn (fun _ _ _ _ z => z) (fun _ _ _ _ z => z) q
theorem r_ifx (hc : PT X c (rdT (SX X ca W) ft)) (ha : PE X a (rd (SX X ca W) fa)) (hb : PE X b (rd (SX X ca W) fb)) : PE X (.IfExp c a b pos) (rd (SX X ca W) (sIf ft fa fb)) := PE.imp (pe_ifExp hc ha hb) fun _ _ _ h => rd_if h
theorem r_and {rest : List Expr} (ha : PE X a (rd (SX X ca W) fa)) (hb : PE X (.BoolOp .And (b :: rest) pos) (rd (SX X ca W) fb)) : PE X (.BoolOp .And (a :: b :: rest) pos) (rd (SX X ca W) (sAn fa fb)) := PE.imp (pe_and ha hb) fun _ _ _ h => rd_and h
theorem r_or {rest : List Expr} (ha : PE X a (rd (SX X ca W) fa)) (hb : PE X (.BoolOp .Or (b :: rest) pos) (rd (SX X ca W) fb)) : PE X (.BoolOp .Or (a :: b :: rest) pos) (rd (SX X ca W) (sOr fa fb)) := PE.imp (pe_or ha hb) fun _ _ _ h => rd_or h
theorem r_one {op : BoolOp} (ha : PE X a (rd (SX X ca W) fa)) : PE X (.BoolOp op [a] pos) (rd (SX X ca W) fa) := pe_one ha
theorem r_not (ha : PE X a (rd (SX X ca W) fa)) : PE X (.UnaryOp .Not a pos) (rd (SX X ca W) (sNo fa)) := PE.imp (pe_not ha) fun _ _ _ h => rd_not h
/-! ### tests -/
theorem t_val (ha : PE X a (rd (SX X ca W) fa)) (he : ∀ whole, isTrue a X.env whole = (do let v ← whole; standAt a.pos; holding [v] (truthy v)) := by intro _; rfl) : PT X a (rdT (SX X ca W) (tTru fa)) := PT.imp (pt_truth ha he) fun _ _ _ h => rdT_tru h
theorem w_and1 (ha : PT X a (rdT (SX X ca W) ft)) : PW X (.BoolOp .And [a] pos) (rdT (SX X ca W) ft) := pw_and1 ha
theorem w_or1 (ha : PT X a (rdT (SX X ca W) ft)) : PW X (.BoolOp .Or [a] pos) (rdT (SX X ca W) ft) := pw_or1 ha
theorem w_and {rest : List Expr} (ha : PT X a (rdT (SX X ca W) ft)) (hb : PW X (.BoolOp .And (b :: rest) pos) (rdT (SX X ca W) gt)) : PW X (.BoolOp .And (a :: b :: rest) pos) (rdT (SX X ca W) (tAn ft gt)) := PW.imp (pw_and ha hb) fun _ _ _ h => rdT_and h
theorem w_or {rest : List Expr} (ha : PT X a (rdT (SX X ca W) ft)) (hb : PW X (.BoolOp .Or (b :: rest) pos) (rdT (SX X ca W) gt)) : PW X (.BoolOp .Or (a :: b :: rest) pos) (rdT (SX X ca W) (tOr' ft gt)) := PW.imp (pw_or ha hb) fun _ _ _ h => rdT_or h
theorem t_not (ha : PT X a (rdT (SX X ca W) ft)) : PT X (.UnaryOp .Not a pos) (rdT (SX X ca W) (tNo ft)) := PT.imp (pt_not ha) fun _ _ _ h => rdT_not h
theorem t_w (h : PW X a (rdT (SX X ca W) ft)) : PT X a (rdT (SX X ca W) ft) := h.pt
/-! ### displays, subscripts, slices -/
theorem d_nil : PA X [] (rdD (SX X ca W) dNil) := PA.imp pa_nil fun _ _ _ h => rdD_nil h
theorem d_cons (ha : PE X e (rd (SX X ca W) fa)) (hr : PA X es (rdD (SX X ca W) fr)) (hs : starEach (e :: es) X.env = (false, eval e X.env) :: starEach es X.env := by rfl) : PA X (e :: es) (rdD (SX X ca W) (dCons fa fr)) := PA.imp (pa_cons ha hr hs) fun _ _ _ h => rdD_cons h
theorem k_nil : PK X [] (rdD (SX X ca W) dNil) := PK.imp pk_nil fun _ _ _ h => rdD_nil h
theorem k_cons {nm : Option Str} {kpos : Pos} {kws : List Keyword} (ha : PE X e (rd (SX X ca W) fa)) (hr : PK X kws (rdD (SX X ca W) fr)) : PK X (⟨nm, e, kpos⟩ :: kws) (rdD (SX X ca W) (dCons fa fr)) := PK.imp (pk_cons ha hr) fun _ _ _ h => rdD_cons h
theorem r_lst (h : PA X es (rdD (SX X ca W) fr)) : PE X (.List es pos) (rd (SX X ca W) (sLst fr)) := PE.imp (pe_lst h) fun _ _ _ q => rd_lst q
theorem r_tup (h : PA X es (rdD (SX X ca W) fr)) : PE X (.Tuple es k0 pos) (rd (SX X ca W) (sTup fr)) := PE.imp (pe_tup h) fun _ _ _ q => rd_tup q
theorem r_ix (ha : PE X a (rd (SX X ca W) fa)) (hb : PE X b (rd (SX X ca W) fb)) (hs : PlainIx b := by intro _ _; rfl) : PE X (.Subscript a b pos) (rd (SX X ca W) (sC2 gIx fa fb)) := PE.imp (pe_ix ix_C ha hb hs) fun _ _ _ h => rd_C2 (fun _ _ _ _ z => z) h
theorem o_none : PO X none (rdO (SX X ca W) oNone) := ⟨fun pins s σ H Q I h => po_none.run pins s σ H Q I (rdO_none h)⟩
theorem o_some (ha : PE X a (rd (SX X ca W) fa)) : PO X (some a) (rdO (SX X ca W) (oSome fa)) := ⟨fun pins s σ H Q I h => (po_some ha).run pins s σ H Q I (rdO_some h)⟩
theorem r_sl {lo hi : Option Expr} {fl fh : SO} (ha : PE X a (rd (SX X ca W) fa)) (hl : PO X lo (rdO (SX X ca W) fl)) (hh : PO X hi (rdO (SX X ca W) fh)) : PE X (.Subscript a (.Slice lo hi none p2) pos) (rd (SX X ca W) (sSl fa fl fh)) := PE.imp (pe_slice sl_C ha hl hh) fun _ _ _ h => rd_sl (fun _ _ _ _ _ z => z) h
/-! ### built-in functions and methods -/
variable {ar : SA}
theorem a_nil : PA X [] (rdA (SX X ca W) aNil) := PA.imp pa_nil fun _ _ _ h => rdA_nil h
theorem a_cons (ha : PE X e (rd (SX X ca W) fa)) (hr : PA X es (rdA (SX X ca W) ar)) (hs : starEach (e :: es) X.env = (false, eval e X.env) :: starEach es X.env := by rfl) : PA X (e :: es) (rdA (SX X ca W) (aCons fa ar)) := PA.imp (pa_cons ha hr hs) fun _ _ _ h => rdA_cons h
theorem r_bC {id : String} {g : List D → OR} (hc : CallR X (.builtin id) (rCn X.K g)) (hg : Gl X x) (hm : X.mg x = none) (hv : bootBuiltins x = some (.builtin id)) (ha : PA X (e :: es) (rdA (SX X ca W) ar)) (hn : x ≠ "__name__" := by decide) (hdb : (x == ("__debug__" : Str)) = false := by decide)
    (he : starEach (e :: es) X.env = (false, eval e X.env) :: starEach es X.env := by rfl) (hpl : (backTo pos (starEach es X.env)).any (·.1) = false := by rfl) : PE X (.Call (.Name x p) (e :: es) [] pos) (rd (SX X ca W) (sCn g ar)) := PE.imp (pe_callB hc hg hm hv ha hn hdb he hpl) fun _ _ _ h => rd_Cn (fun _ _ _ z => z) h
theorem r_bR {id : String} {g : List D → OR} (hc : CallR X (.builtin id) (rRn X.K g)) (hg : Gl X x) (hm : X.mg x = none) (hv : bootBuiltins x = some (.builtin id)) (ha : PA X (e :: es) (rdA (SX X ca W) ar)) (hn : x ≠ "__name__" := by decide) (hdb : (x == ("__debug__" : Str)) = false := by decide)
    (he : starEach (e :: es) X.env = (false, eval e X.env) :: starEach es X.env := by rfl) (hpl : (backTo pos (starEach es X.env)).any (·.1) = false := by rfl) : PE X (.Call (.Name x p) (e :: es) [] pos) (rd (SX X ca W) (sRn g ar)) := PE.imp (pe_callB hc hg hm hv ha hn hdb he hpl) fun _ _ _ h => rd_Rn (fun _ _ _ z => z) h
theorem r_tC {T : String} {g : List D → OR} (hc : CallR X (.type T) (rCn X.K g)) (hg : Gl X x) (hm : X.mg x = none) (hv : bootBuiltins x = some (.type T)) (ha : PA X (e :: es) (rdA (SX X ca W) ar)) (hn : x ≠ "__name__" := by decide) (hdb : (x == ("__debug__" : Str)) = false := by decide)
    (he : starEach (e :: es) X.env = (false, eval e X.env) :: starEach es X.env := by rfl) (hpl : (backTo pos (starEach es X.env)).any (·.1) = false := by rfl) : PE X (.Call (.Name x p) (e :: es) [] pos) (rd (SX X ca W) (sCn g ar)) := PE.imp (pe_callTy hc hg hm hv ha hn hdb he hpl) fun _ _ _ h => rd_Cn (fun _ _ _ z => z) h
end
end TL

set_option Elab.async false
set_option linter.all false
set_option autoImplicit false
set_option maxRecDepth 100000
set_option maxHeartbeats 4000000
namespace TL
open PySem PySem.Spec PyProof.Rows L2

/-! ## x[i] op= e -/
section
variable {X : Cx}
theorem get_L : PGet X (rIxL X.K) := by
  intro pins s σ H o i ov iv Q I ro ri h
  obtain ⟨p, xs, k, z, rfl, rfl, hq, he, q⟩ := h
  cases ro
  obtain ⟨t, rfl⟩ := ri
  obtain ⟨its, r, pl, hz⟩ := I.list hq
  obtain ⟨j, h1, h2, h3, h4, h5⟩ := atI_get he
  obtain ⟨w, ew, rw'⟩ := r.get h2
  have hl := r.length
  have hn := line63
  have fin : EP X pins σ Q w s := ⟨z, H, I, rw', q⟩
  by_cases h0 : 0 ≤ k
  · have hj : k.toNat = j := by
      rw [seqIndex_of h0 h5] at h1
      exact Option.some.inj h1
    exact wpAny_getItem_list pl.isList h0 (by omega) (by rw [hj]; simpa using ew) fin
  · have hj : (k + (its.toArray.size : Int)).toNat = j := by
      rw [seqIndex_neg (by omega) h4] at h1
      rw [List.size_toArray, ← hl]
      exact Option.some.inj h1
    exact wpAny_getItem_list_neg pl.isList (by omega) (by rw [List.size_toArray]; omega) (by omega) (by rw [hj]; simpa using ew) fin
end
section
variable {S : Srd} {P : List Nat} {σ : L2.St} {H : Hp} {D : Ends}
theorem rdS_augS {i : Nat} {fk fv : SF} {g : Int → Int → Int} (h : rdS S P (sAugS i fk g fv) D σ H) : tAugS (tVar i) (rd S fk) (rd S fv) (rIxL S.K) (ipI g) rSetL D σ H := by
  obtain ⟨O, I, env, sr, Q⟩ := h
  simp only [sAugS] at Q
  cases el : env[i]? with
  | none => rw [el] at Q; exact Q.elim
  | some sl =>
    rw [el] at Q
    cases sl with
    | non => exact Q.elim
    | imm d => exact Q.elim
    | deep t => exact Q.elim
    | own l0 =>
      obtain ⟨F, fp⟩ := sr.fp
      obtain ⟨p, vs, a, b, c, r⟩ := fp.own i l0 el
      refine ⟨.ref p, a, O, I, env, sr, (PostS.eb Q).imp fun k e1 I1 H1 st1 sr1 ⟨_, P1⟩ vk hk => ?_⟩
      have P1 := PostS.step P1 (Way.of st1)
      cases k with
      | cell l => exact P1.elim
      | deep t => exact P1.elim
      | view j => exact P1.elim
      | imm dk =>
        cases dk with
        | int z =>
          have hk : RD S.K I1 (.int z) vk := hk
          simp only [RD] at hk; subst hk
          cases el1 : e1[i]? with
          | none => simp only [el1] at P1; exact P1.elim
          | some sl =>
            cases sl with
            | non => simp only [el1] at P1; exact P1.elim
            | imm d => simp only [el1] at P1; exact P1.elim
            | deep t => simp only [el1] at P1; exact P1.elim
            | own l =>
              simp only [el1] at P1
              obtain ⟨F1, fp1⟩ := sr1.fp
              obtain ⟨p1, vs1, a1, b1, c1, r1⟩ := fp1.own i l el1
              rw [a] at a1; cases a1
              cases qa : atI l z with
              | none => simp only [qa] at P1; exact P1.elim
              | some d =>
                simp only [qa] at P1
                cases d with
                | int a0 =>
                  obtain ⟨v0, g1, g2⟩ := r1.atI' qa
                  simp only [RD] at g2; subst g2
                  refine ⟨p, vs1, z, _, rfl, rfl, SqL.of c1, g1, O, I1, e1, sr1, (PostS.eb P1).imp fun x e2 I2 H2 st2 sr2 ⟨_, P2⟩ vx hx => ?_⟩
                  cases x with
                  | cell l => exact P2.elim
                  | deep t => exact P2.elim
                  | view j => exact P2.elim
                  | imm dx =>
                    cases dx with
                    | int b0 =>
                      have hx : RD S.K I2 (.int b0) vx := hx
                      simp only [RD] at hx; subst hx
                      cases el2 : e2[i]? with
                      | none => simp only [el2] at P2; exact P2.elim
                      | some sl =>
                        cases sl with
                        | non => simp only [el2] at P2; exact P2.elim
                        | imm d => simp only [el2] at P2; exact P2.elim
                        | deep t => simp only [el2] at P2; exact P2.elim
                        | own l2 =>
                          simp only [el2] at P2
                          obtain ⟨F2, fp2⟩ := sr2.fp
                          obtain ⟨p2, vs2, a2, b2, c2, r2⟩ := fp2.own i l2 el2
                          rw [a] at a2; cases a2
                          cases hj : ixN l2.length z with
                          | none => simp only [hj] at P2; exact P2.elim
                          | some j =>
                            simp only [hj] at P2
                            obtain ⟨sr3, hO, hI⟩ := sr2.chg el2 a (RDs.set j r2 (show RD S.K I2 (.int (g a0 b0)) (.int (g a0 b0)) by simp only [RD]))
                            refine ⟨a0, b0, rfl, rfl, p, vs2, z, j, rfl, rfl, c2, by rw [r2.len]; exact hj, ?_⟩
                            exact P2 O σ I2 _ (Way.of (st2.tr (Stp.chg hO))) sr3
                    | _ => exact P2.elim
                | _ => exact P1.elim
        | _ => exact P1.elim
end

/-! ## rules: calls, built-ins, methods -/
section
variable {X : Cx} {ca : CaT} {W : WX} {P : List Nat} {fa fb fc f : SF} {fr fk : SD} {ar : SA} {ft gt : SB} {i j n k : Nat} {x : Str} {pos p p2 p3 : Pos} {a b c e : Expr} {es : List Expr} {k0 : Nat} {CX : CXT} {st : Stmt} {ps ks : List Str} {sem : List D → FO} {semG : List D → List D → FG} {perm : List Nat} {kws : List Keyword}
theorem r_isa {T : String} (hT : T ∈ ["int", "bool", "str", "list", "tuple"]) (hg : Gl X "isinstance") (hm : X.mg "isinstance" = none) (hg2 : Gl X (Str.ofString T)) (hm2 : X.mg (Str.ofString T) = none) (hb : bootBuiltins (Str.ofString T) = some (.type T)) (hT2 : (Str.ofString T) ≠ "__name__") (hT3 : ((Str.ofString T) == ("__debug__" : Str)) = false)
    (ha : PE X a (rd (SX X ca W) f)) (hs : starEach [a, .Name (Str.ofString T) p2] X.env = (false, eval a X.env) :: starEach [.Name (Str.ofString T) p2] X.env := by rfl) (hpl : (backTo pos (starEach [.Name (Str.ofString T) p2] X.env)).any (·.1) = false := by rfl) (hs2 : starEach [Expr.Name (Str.ofString T) p2] X.env = (false, eval (Expr.Name (Str.ofString T) p2) X.env) :: starEach [] X.env := by rfl) :
    PE X (.Call (.Name "isinstance" p) [a, .Name (Str.ofString T) p2] [] pos) (rd (SX X ca W) (sIsa T f)) :=
  PE.imp (pe_callB (cr_isa hT) hg hm (by rfl) (pa_cons ha (pa_cons (pe_bltn (v := .ty T) hg2 hm2 hb rfl hT2 hT3) pa_nil hs2) hs) (by decide) (by decide) hs hpl) fun _ _ _ h => rd_isa h
theorem r_isaLT {kt : Nat} {p4 : Pos} (hg : Gl X "isinstance") (hm : X.mg "isinstance" = none) (hg2 : Gl X "list") (hm2 : X.mg "list" = none) (hg3 : Gl X "tuple") (hm3 : X.mg "tuple" = none)
    (ha : PE X a (rd (SX X ca W) f)) (hs : starEach [a, .Tuple [.Name "list" p2, .Name "tuple" p3] kt p4] X.env = (false, eval a X.env) :: starEach [.Tuple [.Name "list" p2, .Name "tuple" p3] kt p4] X.env := by rfl) (hpl : (backTo pos (starEach [.Tuple [.Name "list" p2, .Name "tuple" p3] kt p4] X.env)).any (·.1) = false := by rfl) :
    PE X (.Call (.Name "isinstance" p) [a, .Tuple [.Name "list" p2, .Name "tuple" p3] kt p4] [] pos) (rd (SX X ca W) (sIsaLT f)) :=
  PE.imp (pe_callB cr_isaLT hg hm (by rfl) (pa_cons ha (pa_cons (pe_tup (pa_cons (pe_bltn (v := .ty "list") hg2 hm2 (by rfl) rfl) (pa_cons (pe_bltn (v := .ty "tuple") hg3 hm3 (by rfl) rfl) pa_nil))) pa_nil) hs) (by decide) (by decide) hs hpl) fun _ _ _ h => rd_isaLT h
theorem r_mC {T id : String} {name : Str} {apos cpos : Pos} {g : D → List D → OR} (hm : MtR X id (rCm X.K g)) (pa : PlainAttrs T) (slot : Slot T name id) (hty : typeOf (.builtin id) = pure (.type "method_descriptor")) (ho : PE X a (rd (SX X ca W) fa)) (ha : PA X (e :: es) (rdA (SX X ca W) ar))
    (hbase : attributeBase a name X.env (eval a X.env) = eval a X.env := by rfl)
    (hfew : ((backTo cpos (starEach (e :: es) X.env)).all (fun x => !x.1) && (backToKw cpos (keywordEach [] X.env)).all (fun x => x.1.isSome)
      && decide ((e :: es).length + ([] : List Keyword).length + (if ([] : List Keyword).isEmpty then 0 else 1) < 30)) = true := by rfl)
    (hline : (apos.endLine == cpos.line) = true := by rfl) (hs : starEach (e :: es) X.env = (false, eval e X.env) :: starEach es X.env := by rfl) (hplain : (backTo cpos (starEach es X.env)).any (·.1) = false := by rfl) :
    PE X (.Call (.Attribute a name apos) (e :: es) [] cpos) (rd (SX X ca W) (sCm T g fa ar)) := PE.imp (pe_bm pa slot hty hm ho ha hbase hfew hline hs hplain) fun _ _ _ h => rd_Cm (fun _ _ _ _ z => z) h
theorem r_join {apos cpos : Pos} (ho : PE X a (rd (SX X ca W) fa)) (ha : PA X [e] (rdA (SX X ca W) ar)) (hbase : attributeBase a "join" X.env (eval a X.env) = eval a X.env := by rfl) (hline : (apos.endLine == cpos.line) = true := by rfl) (hs : starEach [e] X.env = (false, eval e X.env) :: starEach [] X.env := by rfl) :
    PE X (.Call (.Attribute a "join" apos) [e] [] cpos) (rd (SX X ca W) (sCm "str" gJoin fa ar)) := r_mC mt_joinC F.plainAttrs_str F.slot_str_join F.type_str_join ho ha hbase (by rw [hs]; rfl) hline hs
theorem r_count {apos cpos : Pos} (ho : PE X a (rd (SX X ca W) fa)) (ha : PA X [e] (rdA (SX X ca W) ar)) (hbase : attributeBase a "count" X.env (eval a X.env) = eval a X.env := by rfl) (hline : (apos.endLine == cpos.line) = true := by rfl) (hs : starEach [e] X.env = (false, eval e X.env) :: starEach [] X.env := by rfl) :
    PE X (.Call (.Attribute a "count" apos) [e] [] cpos) (rd (SX X ca W) (sCm "str" gCount fa ar)) := r_mC mt_countC F.plainAttrs_str F.slot_str_count F.type_str_count ho ha hbase (by rw [hs]; rfl) hline hs
/-- f(e, ..) of this module -/
theorem r_f {ca : CaT} (c : CalG X.prog X.w X.K X.mg X.base CX k x st ps (spP X.K ca n sem)) (hr : Room j X.A) (hk : k ≤ j) (g : Gd X) (hx : Tells X CX W) (hg : Gl X x) (hn : n = ps.length) (b : BindsP x st ps) (ha : PA X (e :: es) (rdD (SX X ca W) fr))
    (hdb : (x == ("__debug__" : Str)) = false := by decide) (he : starEach (e :: es) X.env = (false, eval e X.env) :: starEach es X.env := by rfl) (hpl : (backTo pos (starEach es X.env)).any (·.1) = false := by rfl) :
    PE X (.Call (.Name x p) (e :: es) [] pos) (rd (SX X ca W) (sCallP n sem fr)) := PE.imp (pe_g c hr hk g.hg hx hg (fun vs H Q E h => by rw [h.1, hn]) b ha hdb he hpl) fun _ _ _ h => rd_callP h
theorem r_f0 {ca : CaT} (c : CalG X.prog X.w X.K X.mg X.base CX k x st [] (spP X.K ca 0 sem)) (hr : Room j X.A) (hk : k ≤ j) (g : Gd X) (hx : Tells X CX W) (hg : Gl X x) (b : BindsP x st [])
    (hdb : (x == ("__debug__" : Str)) = false := by decide) : PE X (.Call (.Name x p) [] [] pos) (rd (SX X ca W) (sCallP 0 sem dNil)) := PE.imp (pe_g0 c hr hk g.hg hx hg rfl b hdb) fun _ _ _ h => by
  have q := rd_callP h
  exact rdD_nil q
theorem r_fk {ca : CaT} {n0 nk : Nat} (c : CalG X.prog X.w X.K X.mg X.base CX k x st ps (spP X.K ca n sem)) (hr : Room j X.A) (hk : k ≤ j) (g : Gd X) (hx : Tells X CX W) (hg : Gl X x) (b : BindsAs x st ps n0 ks perm) (hnk : nk = ks.length) (ha : PA X (e :: es) (rdD (SX X ca W) fr)) (hkw : PK X kws (rdD (SX X ca W) fk))
    (hall : (backToKw pos (keywordEach kws X.env)).all (·.1.isSome) = true := by rfl) (hks : (backToKw pos (keywordEach kws X.env)).filterMap (·.1) = ks := by rfl)
    (hdb : (x == ("__debug__" : Str)) = false := by decide) (he : starEach (e :: es) X.env = (false, eval e X.env) :: starEach es X.env := by rfl)
    (hpl : ((backTo pos (starEach (e :: es) X.env)).any (·.1) || (backToKw pos (keywordEach kws X.env)).any (·.1.isNone)) = false := by rfl) :
    PE X (.Call (.Name x p) (e :: es) kws pos) (rd (SX X ca W) (sCallK n n0 nk perm sem fr fk)) := PE.imp (pe_gk c hr hk g.hg hx hg b ha hkw hnk hall hks hdb he hpl) fun _ _ _ h => rd_callK h
theorem r_fk0 {ca : CaT} {nk : Nat} (c : CalG X.prog X.w X.K X.mg X.base CX k x st ps (spP X.K ca n sem)) (hr : Room j X.A) (hk : k ≤ j) (g : Gd X) (hx : Tells X CX W) (hg : Gl X x) (b : BindsAs x st ps 0 ks perm) (hnk : nk = ks.length) (hkw : PK X kws (rdD (SX X ca W) fk))
    (hall : (backToKw pos (keywordEach kws X.env)).all (·.1.isSome) = true := by rfl) (hks : (backToKw pos (keywordEach kws X.env)).filterMap (·.1) = ks := by rfl)
    (hdb : (x == ("__debug__" : Str)) = false := by decide) (hpl : ((backTo pos (starEach [] X.env)).any (·.1) || (backToKw pos (keywordEach kws X.env)).any (·.1.isNone)) = false := by rfl) :
    PE X (.Call (.Name x p) [] kws pos) (rd (SX X ca W) (sCallK n 0 nk perm sem dNil fk)) := PE.imp (pe_gk0 c hr hk g.hg hx hg b hkw hnk hall hks hdb hpl) fun _ _ _ h => by
  have q := rd_callK h
  exact rdD_nil q
/-- f(own list, e, ..) -/
theorem r_fg {ca : CaT} {y : Str} (c : CalG X.prog X.w X.K X.mg X.base CX k x st ps (spG X.K ca n semG)) (hr : Room j X.A) (hk : k ≤ j) (g : Gd X) (hx : Tells X CX W) (hg : Gl X x) (hn : n = ps.length) (b : BindsP x st ps) (hN : X.N[i]? = some y) (hv : Vis X.env.scope y) (ha : PA X es (rdD (SX X ca W) fr))
    (hdb : (x == ("__debug__" : Str)) = false := by decide) (hd : (y == ("__debug__" : Str)) = false := by decide) (hcd : (y == ("__classdict__" : Str)) = false := by decide) (he : starEach (.Name y p2 :: es) X.env = (false, eval (.Name y p2) X.env) :: starEach es X.env := by rfl) (hpl : (backTo pos (starEach es X.env)).any (·.1) = false := by rfl) :
    PE X (.Call (.Name x p) (.Name y p2 :: es) [] pos) (rd (SX X ca W) (sCallG n i semG fr)) := PE.imp (pe_g c hr hk g.hg hx hg (fun vs H Q E h => by rw [h.1, hn]) b (pa_cons (pe_var hN hv hd hcd) ha he) hdb he hpl) fun _ _ _ h => rd_callG h
theorem r_ff {ca : CaT} (c : CalG X.prog X.w X.K X.mg X.base CX k x st ps (spG X.K ca n semG)) (hr : Room j X.A) (hk : k ≤ j) (g : Gd X) (hx : Tells X CX W) (hg : Gl X x) (hn : n = ps.length) (b : BindsP x st ps) (hf : PE X e (rd (SX X ca W) f)) (ha : PA X es (rdD (SX X ca W) fr))
    (hdb : (x == ("__debug__" : Str)) = false := by decide) (he : starEach (e :: es) X.env = (false, eval e X.env) :: starEach es X.env := by rfl) (hpl : (backTo pos (starEach es X.env)).any (·.1) = false := by rfl) :
    PE X (.Call (.Name x p) (e :: es) [] pos) (rd (SX X ca W) (sCallF n semG f fr)) := PE.imp (pe_g c hr hk g.hg hx hg (fun vs H Q E h => by rw [h.1, hn]) b (pa_cons hf ha he) hdb he hpl) fun _ _ _ h => rd_callF h

/-! ### what is walked over; comprehensions -/
theorem PI.imp {tg iter : Expr} {t t' : TI} (h : PI X tg iter t) (k : ∀ σ H R, t' σ H R → t σ H R) : PI X tg iter t' := ⟨fun pins s σ H R I q => h.run pins s σ H R I (k σ H R q)⟩
theorem i_list {tg : Expr} (ha : PE X a (rd (SX X ca W) f)) : PI X tg a (rdI (SX X ca W) (sIt itemsL f)) := PI.imp (pi_list ha) fun _ _ _ h => rdI_list h
theorem i_tup {tg : Expr} (ha : PE X a (rd (SX X ca W) f)) : PI X tg a (rdI (SX X ca W) (sIt itemsT f)) := PI.imp (pi_tup ha) fun _ _ _ h => rdI_tup h
theorem i_str {tg : Expr} (ha : PE X a (rd (SX X ca W) f)) : PI X tg a (rdI (SX X ca W) (sIt itemsS f)) := PI.imp (pi_str ha) fun _ _ _ h => rdI_str h
theorem i_rng1 {tg : Expr} (hg : Gl X "range") (hm : X.mg "range" = none) (ha : PE X a (rd (SX X ca W) f)) (hs : starEach [a] X.env = [(false, eval a X.env)] := by rfl) : PI X tg (.Call (.Name "range" p) [a] [] pos) (rdI (SX X ca W) (sRng1 f)) := PI.imp (pi_range1 hg hm (pa_cons ha pa_nil hs) hs) fun _ _ _ h => rdI_rng1 h
theorem i_rng2 {tg : Expr} (hg : Gl X "range") (hm : X.mg "range" = none) (ha : PE X a (rd (SX X ca W) fa)) (hb : PE X b (rd (SX X ca W) fb)) (hs : starEach [a, b] X.env = [(false, eval a X.env), (false, eval b X.env)] := by rfl) (hs2 : starEach [b] X.env = [(false, eval b X.env)] := by rfl) : PI X tg (.Call (.Name "range" p) [a, b] [] pos) (rdI (SX X ca W) (sRng2 fa fb)) :=
  PI.imp (pi_range2 hg hm (pa_cons ha (pa_cons hb pa_nil hs2) (by rw [hs, hs2])) hs hs2) fun _ _ _ h => rdI_rng2 h
theorem i_enum {elts : List Expr} {kk : Nat} {tpos : Pos} (hg : Gl X "enumerate") (hm : X.mg "enumerate" = none) (ha : PE X a (rd (SX X ca W) f)) (hs : starEach [a] X.env = [(false, eval a X.env)] := by rfl) : PI X (.Tuple elts kk tpos) (.Call (.Name "enumerate" p) [a] [] pos) (rdI (SX X ca W) (sEnum f)) := PI.imp (pi_enum hg hm (pa_cons ha pa_nil hs) hs) fun _ _ _ h => rdI_enum h
theorem i_zip {elts : List Expr} {kk : Nat} {tpos : Pos} (hg : Gl X "zip") (hm : X.mg "zip" = none) (ha : PE X a (rd (SX X ca W) fa)) (hb : PE X b (rd (SX X ca W) fb)) (hs : starEach [a, b] X.env = (false, eval a X.env) :: starEach [b] X.env := by rfl) (hs2 : starEach [b] X.env = (false, eval b X.env) :: starEach [] X.env := by rfl) (hpl : (backTo pos (starEach [b] X.env)).any (·.1) = false := by rfl) :
    PI X (.Tuple elts kk tpos) (.Call (.Name "zip" p) [a, b] [] pos) (rdI (SX X ca W) (sZipA fa fb)) := PI.imp (RZ.pi_zipA hg hm (pa_cons ha (pa_cons hb pa_nil hs2) hs) hs hpl) fun _ _ _ h => rdI_zipA h
end
end TL

set_option Elab.async false
set_option linter.all false
set_option autoImplicit false
set_option maxRecDepth 100000
set_option maxHeartbeats 4000000
namespace TL
open PySem PySem.Spec PyProof.Rows L2

abbrev W0 : WX := fun _ _ _ _ => False
section
variable {X : Cx} {ca : CaT} {W : WX} {P : List Nat} {fa fb fc f : SF} {fr fk : SD} {ft gt : SB} {i j n k : Nat} {x y : Str} {pos p p2 p3 spos : Pos} {a b c e tg iter elt : Expr} {es ifs : List Expr} {k0 : Nat} {sf sg : SS} {sts rest : List Stmt} {s : Stmt}
/-! ### comprehensions -/
theorem ts_0 : PTs X [] (rdT (SX X ca W) bYes) := ⟨fun pins s σ H Q I h => pts_nil.run pins s σ H Q I (rdT_yes h)⟩
theorem ts_1 (h : PT X c (rdT (SX X ca W) ft)) : PTs X [c] (rdT (SX X ca W) ft) := pts_one h
theorem r_lc {scope : Scope} {own : List (Str × Nat)} {g : SD} {tt : TG} {t : D → Env → Option Env} {T vs : List Nat} (gd : Gd X) (hN : X.N.Nodup) (hi : PI X tg iter (rdI (SX X ca W) g)) (ok : BlkOk X.N X.env.scope scope own)
    (hg : ∀ (s : Shared) (H : Hp) (C : Addr) (cl : List (Str × Addr)) (fp : List Addr), PG (X.blk s H scope (compEnvC scope cl C X.env) fp) tg tt) (ht : ∀ (s : Shared) (H : Hp) (C : Addr) (cl : List (Str × Addr)) (fp : List Addr), PTs (X.blk s H scope (compEnvC scope cl C X.env) fp) ifs (rdT (SX X ca W0) ft))
    (he : ∀ (s : Shared) (H : Hp) (C : Addr) (cl : List (Str × Addr)) (fp : List Addr), PE (X.blk s H scope (compEnvC scope cl C X.env) fp) elt (rd (SX X ca W0) f)) (hT : TgOk X.K T t tt) (hv : own.map (·.2) = vs) (hTv : ∀ i ∈ T, i ∈ vs) (hs : ∀ x, foldedSetIterable iter X.env x = pure x := by intro _; rfl) :
    PE X (.ListComp elt [⟨tg, iter, ifs, 0⟩] scope pos) (rd (SX X ca W) (sLc vs g t ft f)) := by
  subst hv
  exact PE.imp (pe_lc gd.hc hN hi ok hg ht he hs) fun _ _ _ h => rd_lc hT hTv h
theorem s_setLc {scope : Scope} {own : List (Str × Nat)} {g : SD} {tt : TG} {t : D → Env → Option Env} {T vs : List Nat} {py : Pos} (hP : i ∉ P) (gd : Gd X) (hN : X.N.Nodup) (hy : X.N[i]? = some y) (hyl : X.env.scope.names.lookup y = some .local)
    (hsw : swapsWith (.ListComp elt [⟨tg, iter, ifs, 0⟩] scope pos) (some (.Name y py)) spos.line X.env = pure true) (hi : PI X tg iter (rdI (SX X ca W) g)) (ok : BlkOk X.N X.env.scope scope own)
    (hg : ∀ (s : Shared) (H : Hp) (C : Addr) (cl : List (Str × Addr)) (fp : List Addr), PG (X.blk s H scope (compEnvC scope cl C X.env) fp) tg tt) (ht : ∀ (s : Shared) (H : Hp) (C : Addr) (cl : List (Str × Addr)) (fp : List Addr), PTs (X.blk s H scope (compEnvC scope cl C X.env) fp) ifs (rdT (SX X ca W0) ft))
    (he : ∀ (s : Shared) (H : Hp) (C : Addr) (cl : List (Str × Addr)) (fp : List Addr), PE (X.blk s H scope (compEnvC scope cl C X.env) fp) elt (rd (SX X ca W0) f)) (hT : TgOk X.K T t tt) (hv : own.map (·.2) = vs) (hTv : ∀ i ∈ T, i ∈ vs) (hs : ∀ x, foldedSetIterable iter X.env x = pure x := by intro _; rfl) :
    PS X (.Assign [.Name y py] (.ListComp elt [⟨tg, iter, ifs, 0⟩] scope pos) spos) (rdS (SX X ca W) P (sAsg i (sLc vs g t ft f))) := by
  subst hv
  refine PS.imp (ps_setLc gd.hc hN hy hyl hsw hi ok hg ht he hs) fun D σ H h => ?_
  have q := rdS_asg (S := SX X ca W) hP h
  exact rd_lc hT hTv q
theorem s_setLcO {scope : Scope} {own : List (Str × Nat)} {g : SD} {tt : TG} {t : D → Env → Option Env} {T vs : List Nat} {py : Pos} (hP : i ∉ P) (gd : Gd X) (hN : X.N.Nodup) (hy : X.N[i]? = some y) (hyl : X.env.scope.names.lookup y = some .local)
    (hsw : swapsWith (.ListComp elt [⟨tg, iter, ifs, 0⟩] scope pos) (some (.Name y py)) spos.line X.env = pure true) (hi : PI X tg iter (rdI (SX X ca W) g)) (ok : BlkOk X.N X.env.scope scope own)
    (hg : ∀ (s : Shared) (H : Hp) (C : Addr) (cl : List (Str × Addr)) (fp : List Addr), PG (X.blk s H scope (compEnvC scope cl C X.env) fp) tg tt) (ht : ∀ (s : Shared) (H : Hp) (C : Addr) (cl : List (Str × Addr)) (fp : List Addr), PTs (X.blk s H scope (compEnvC scope cl C X.env) fp) ifs (rdT (SX X ca W0) ft))
    (he : ∀ (s : Shared) (H : Hp) (C : Addr) (cl : List (Str × Addr)) (fp : List Addr), PE (X.blk s H scope (compEnvC scope cl C X.env) fp) elt (rd (SX X ca W0) f)) (hT : TgOk X.K T t tt) (hv : own.map (·.2) = vs) (hTv : ∀ i ∈ T, i ∈ vs) (hs : ∀ x, foldedSetIterable iter X.env x = pure x := by intro _; rfl) :
    PS X (.Assign [.Name y py] (.ListComp elt [⟨tg, iter, ifs, 0⟩] scope pos) spos) (rdS (SX X ca W) P (sAsgO i (sLc vs g t ft f))) := by
  subst hv
  refine PS.imp (ps_setLc gd.hc hN hy hyl hsw hi ok hg ht he hs) fun D σ H h => ?_
  have q := rdS_asgO (S := SX X ca W) hP h
  exact rd_lc hT hTv q
/-! ### statements -/
theorem s_nil : PSs X [] (rdS (SX X ca W) P sSkip) := PSs.imp pss_nil fun _ _ _ h => rdS_skip h
theorem s_cons (h1 : PS X s (rdS (SX X ca W) P sf)) (h2 : PSs X rest (rdS (SX X ca W) P sg)) : PSs X (s :: rest) (rdS (SX X ca W) P (sSeq sf sg)) := PSs.imp (pss_cons h1 h2) fun _ _ _ h => rdS_seq h
theorem s_one (h1 : PS X s (rdS (SX X ca W) P sf)) : PSs X [s] (rdS (SX X ca W) P sf) := pss_one h1
theorem s_frz (h : PSs X sts (rdS (SX X ca W) P sf)) : PSs X sts (rdS (SX X ca W) P (sSeq (sFrz i) sf)) := PSs.imp h fun _ _ _ q => rdS_frz q
theorem s_set (hP : i ∉ P) (hN : X.N.Nodup) (hi : X.N[i]? = some x) (hx : Loc X.env.scope x) (he : PE X e (rd (SX X ca W) f)) (hs : swapsWith e (some (.Name x p2)) pos.line X.env = pure false := by rfl) (hf : X.fn x = true ∨ X.env.scope.names.lookup x = some .local := by first | exact .inl rfl | exact .inr rfl | assumption) :
    PS X (.Assign [.Name x p2] e pos) (rdS (SX X ca W) P (sAsg i f)) := PS.imp (ps_set hN hi hx he hs hf) fun _ _ _ h => rdS_asg hP h
theorem s_setO (hP : i ∉ P) (hN : X.N.Nodup) (hi : X.N[i]? = some x) (hx : Loc X.env.scope x) (he : PE X e (rd (SX X ca W) f)) (hs : swapsWith e (some (.Name x p2)) pos.line X.env = pure false := by rfl) (hf : X.fn x = true ∨ X.env.scope.names.lookup x = some .local := by first | exact .inl rfl | exact .inr rfl | assumption) :
    PS X (.Assign [.Name x p2] e pos) (rdS (SX X ca W) P (sAsgO i f)) := PS.imp (ps_set hN hi hx he hs hf) fun _ _ _ h => rdS_asgO hP h
theorem s_asgT {T : List Nat} {t : D → Env → Option Env} {tt : TG} (ht : TgOk X.K T t tt) (hT : ∀ i ∈ P, i ∉ T) (he : PE X e (rd (SX X ca W) f)) (hg : PG X tg tt) (hs : swapsWithSole [tg] e pos.line X.env = pure false := by rfl) (hw : swappedStores [tg] e X.env = pure none := by rfl)
    (h1 : (assignEach [tg] X.env).map (·.2) = [assign tg X.env] := by rfl) : PS X (.Assign [tg] e pos) (rdS (SX X ca W) P (sAsgT t f)) := PS.imp (ps_asg he hg hs hw h1) fun _ _ _ h => rdS_asgT ht hT h
theorem s_par {px py pt : Pos} {kt k2 : Nat} {pt2 : Pos} (hPi : i ∉ P) (hPj : j ∉ P) (gd : Gd X) (hN : X.N.Nodup) (hi : X.N[i]? = some x) (hj : X.N[j]? = some y) (hij : i ≠ j)
    (hx : X.env.scope.names.lookup x = some .local) (hy : X.env.scope.names.lookup y = some .local) (ha : PA X [a, b] (rdD (SX X ca W) fr))
    (hw : swappedStores [.Tuple [.Name x px, .Name y py] kt pt] (.Tuple [a, b] k2 pt2) X.env = pure (some [x, y]) := by rfl)
    (hs : swapsWithSole [.Tuple [.Name x px, .Name y py] kt pt] (.Tuple [a, b] k2 pt2) pos.line X.env = pure false := by rfl) :
    PS X (.Assign [.Tuple [.Name x px, .Name y py] kt pt] (.Tuple [a, b] k2 pt2) pos) (rdS (SX X ca W) P (sPar i j fr)) := PS.imp (ps_par gd.hc hN hi hj hij hx hy ha hw hs) fun _ _ _ h => rdS_par hPi hPj h
theorem s_par3 {z : Str} {l : Nat} {px py pz pt : Pos} {kt k2 : Nat} {pt2 : Pos} (hPi : i ∉ P) (hPj : j ∉ P) (hPl : l ∉ P) (gd : Gd X) (hN : X.N.Nodup) (hi : X.N[i]? = some x) (hj : X.N[j]? = some y) (hl : X.N[l]? = some z) (hij : i ≠ j) (hil : i ≠ l) (hjl : j ≠ l)
    (hx : X.env.scope.names.lookup x = some .local) (hy : X.env.scope.names.lookup y = some .local) (hz : X.env.scope.names.lookup z = some .local) (ha : PA X [a, b, c] (rdD (SX X ca W) fr))
    (hw : swappedStores [.Tuple [.Name x px, .Name y py, .Name z pz] kt pt] (.Tuple [a, b, c] k2 pt2) X.env = pure (some [x, y, z]) := by rfl)
    (hs : swapsWithSole [.Tuple [.Name x px, .Name y py, .Name z pz] kt pt] (.Tuple [a, b, c] k2 pt2) pos.line X.env = pure false := by rfl) :
    PS X (.Assign [.Tuple [.Name x px, .Name y py, .Name z pz] kt pt] (.Tuple [a, b, c] k2 pt2) pos) (rdS (SX X ca W) P (sPar3 i j l fr)) := PS.imp (ps_par3 gd.hc hN hi hj hl hij hil hjl hx hy hz ha hw hs) fun _ _ _ h => rdS_par3 hPi hPj hPl h
theorem s_augA (hP : i ∉ P) (hN : X.N.Nodup) (hi : X.N[i]? = some x) (hx : Loc X.env.scope x) (he : PE X e (rd (SX X ca W) f)) (hf : X.fn x = true ∨ X.env.scope.names.lookup x = some .local := by first | exact .inl rfl | exact .inr rfl | assumption) :
    PS X (.AugAssign (.Name x p2) .Add e pos) (rdS (SX X ca W) P (sAug i (fun a b => a + b) f)) := PS.imp (ps_aug hN hi hx he ip_add hf) fun _ _ _ h => rdS_aug hP h
theorem s_augSA (hN : X.N[i]? = some x) (hv : Vis X.env.scope x) (ha : PE X a (rd (SX X ca W) fa)) (he : PE X e (rd (SX X ca W) f)) (hd : (x == ("__debug__" : Str)) = false := by decide) (hcd : (x == ("__classdict__" : Str)) = false := by decide)
    (hst : ∀ ov iv new, augStore a ov iv new = (do holding [new, ov, iv] (setItem ov iv new); release [new, ov, iv] []; pure .next) := by intros; rfl) :
    PS X (.AugAssign (.Subscript (.Name x p) a p2) .Add e pos) (rdS (SX X ca W) P (sAugS i fa (fun a b => a + b) f)) := PS.imp (ps_augS (pe_var hN hv hd hcd) ha get_L he ip_add set_list hst) fun _ _ _ h => rdS_augS h
theorem s_setI (hN : X.N[i]? = some x) (hv : Vis X.env.scope x) (ha : PE X a (rd (SX X ca W) fa)) (he : PE X e (rd (SX X ca W) f)) (hd : (x == ("__debug__" : Str)) = false := by decide) (hcd : (x == ("__classdict__" : Str)) = false := by decide)
    (hst : ∀ v, assign (.Subscript (.Name x p) a p2) X.env v = (do
      let ov ← holding [v] (eval (.Name x p) X.env)
      let iv ← holding [v, ov] (eval a X.env)
      standAt p2
      holding [v, ov, iv] (setItem ov iv v)
      release [v, ov, iv] []) := by intro _; rfl) (hs : swapsWithSole [.Subscript (.Name x p) a p2] e pos.line X.env = pure false := by rfl) (hw : swappedStores [.Subscript (.Name x p) a p2] e X.env = pure none := by rfl)
    (h1 : (assignEach [.Subscript (.Name x p) a p2] X.env).map (·.2) = [assign (.Subscript (.Name x p) a p2) X.env] := by rfl) :
    PS X (.Assign [.Subscript (.Name x p) a p2] e pos) (rdS (SX X ca W) P (sSet i f fa)) := PS.imp (ps_asg he (pg_sub (pe_var hN hv hd hcd) ha set_list hst) hs hw h1) fun _ _ _ h => rdS_set h
theorem s_app {apos cpos : Pos} (hN : X.N[i]? = some x) (hv : Vis X.env.scope x) (ha : PE X e (rd (SX X ca W) f)) (hd : (x == ("__debug__" : Str)) = false := by decide) (hcd : (x == ("__classdict__" : Str)) = false := by decide)
    (hbase : attributeBase (.Name x p) "append" X.env (eval (.Name x p) X.env) = eval (.Name x p) X.env := by rfl) (hline : (apos.endLine == cpos.line) = true := by rfl) (hs : starEach [e] X.env = (false, eval e X.env) :: starEach [] X.env := by rfl)
    (hsw : swapsWith (.Call (.Attribute (.Name x p) "append" apos) [e] [] cpos) none pos.line X.env = pure false := by rfl) :
    PS X (.Expr (.Call (.Attribute (.Name x p) "append" apos) [e] [] cpos) pos) (rdS (SX X ca W) P (sApp i f)) :=
  PS.imp (ps_expr (pe_bm F.plainAttrs_list F.slot_list_append F.type_list_append mt_append (pe_var hN hv hd hcd) (pa_cons ha pa_nil hs) hbase (by rw [hs]; rfl) hline hs) hsw) fun _ _ _ h => rdS_app h
theorem s_if (hc : PT X c (rdT (SX X ca W) ft)) (ha : PSs X sts (rdS (SX X ca W) P sf)) (hb : PSs X rest (rdS (SX X ca W) P sg)) : PS X (.If c sts rest pos) (rdS (SX X ca W) P (sIfS ft sf sg)) := PS.imp (ps_if hc ha hb) fun _ _ _ h => rdS_if h
theorem s_ret (he : PE X e (rd (SX X ca W) f)) : PS X (.Return (some e) pos) (rdS (SX X ca W) P (sRet f)) := PS.imp (ps_ret he) fun _ _ _ h => rdS_ret h
theorem s_retN : PS X (.Return none pos) (rdS (SX X ca W) P sRetN) := PS.imp ps_retN fun _ _ _ h => rdS_retN h
theorem s_expr (he : PE X e (rd (SX X ca W) f)) (hs : swapsWith e none pos.line X.env = pure false := by rfl) : PS X (.Expr e pos) (rdS (SX X ca W) P (sDrop f)) := PS.imp (ps_expr he hs) fun _ _ _ h => rdS_drop h
theorem s_brk : PS X (.Break pos) (rdS (SX X ca W) P sBrk) := PS.imp ps_break fun _ _ _ h => rdS_brk h
theorem s_cnt : PS X (.Continue pos) (rdS (SX X ca W) P sCnt) := PS.imp ps_continue fun _ _ _ h => rdS_cnt h
theorem s_bad : PS X s (rdS (SX X ca W) P sBad) := PS.imp ps_never fun _ _ _ h => rdS_bad h
theorem s_for {g : SD} {tt : TG} {t : D → Env → Option Env} {T : List Nat} (ht : TgOk X.K T t tt) (hT : ∀ i ∈ P, i ∉ T) (hp : PassesOwn (model X.prog X.w) X.A X.env X.xe) (gd : Gd X) (hi : PI X tg iter (rdI (SX X ca W) g)) (hg : PG X tg tt) (hb : PSs X sts (rdS (SX X ca W) P sf))
    (hs : ∀ x, foldedSetIterable iter X.env x = pure x := by intro _; rfl) : PS X (.For tg iter sts [] pos) (rdS (SX X ca W) P (sFor g t sf)) := PS.imp (ps_for hp gd.hc hi hg hb hs) fun _ _ _ h => rdS_for ht hT h
theorem s_while {fu : Env → Nat} (hp : PassesOwn (model X.prog X.w) X.A X.env X.xe) (hc : PT X c (rdT (SX X ca W) ft)) (hb : PSs X sts (rdS (SX X ca W) P sf)) : PS X (.While c sts [] pos) (rdS (SX X ca W) P (sWhile fu ft sf)) := PS.imp (ps_while hp hc hb) fun _ _ _ h => rdS_while h
theorem r_pop {apos cpos : Pos} (hN : X.N[i]? = some x) (hv : Vis X.env.scope x) (hd : (x == ("__debug__" : Str)) = false := by decide) (hcd : (x == ("__classdict__" : Str)) = false := by decide)
    (hbase : attributeBase (.Name x p) "pop" X.env (eval (.Name x p) X.env) = eval (.Name x p) X.env := by rfl) (hline : (apos.endLine == cpos.line) = true := by rfl) :
    PE X (.Call (.Attribute (.Name x p) "pop" apos) [] [] cpos) (rd (SX X ca W) (sPop i)) := PE.imp (pe_bm0 F.plainAttrs_list F.slot_list_pop F.type_list_pop mt_pop (pe_var hN hv hd hcd) hbase hline) fun _ _ _ h => rd_pop h
end
end TL

set_option Elab.async false
set_option linter.all false
set_option autoImplicit false
set_option maxRecDepth 100000
set_option maxHeartbeats 4000000
namespace TL
open PySem PySem.Spec PyProof.Rows L2

/-! ## plain laws of the semantic functions -/
theorem restE_one {env : TL.Env} {v : Nat} {s : Sl} (hv : v < env.length) : restE env (env.set v s) [v] = env := by
  obtain ⟨x, hx⟩ : ∃ x, env[v]? = some x := ⟨_, List.getElem?_eq_getElem hv⟩
  simp only [restE, hx, List.set_set]
  exact set_same hx
theorem wipe_tg {env : TL.Env} {v : Nat} {d : D} : tgN v d (wipeE env [v]) = some (env.set v (.imm d)) := by
  simp only [tgN, wipeE, List.set_set]
/-- a comprehension over one name that changes nothing -/
theorem compL_filter {v : Nat} {c : TL.SB} {f : SF} {env : TL.Env} {p : D → Bool} {F : D → D} (hv : v < env.length) : ∀ (ds acc : List D), acc.length + ds.length ≤ lim →
    (∀ d ∈ ds, c (env.set v (.imm d)) = .ok (p d) (env.set v (.imm d)) ∧ (p d = true → ∃ x, f (env.set v (.imm d)) = .ok x (env.set v (.imm d)) ∧ frz x (env.set v (.imm d)) = .ok (F d) (env.set v (.imm d)))) →
    compL [v] (tgN v) c f ds env acc = .ok (acc ++ (ds.filter p).map F) env
  | [], acc, _, _ => by simp [compL]
  | d :: ds, acc, hl, h => by
    obtain ⟨h1, h2⟩ := h d (by simp)
    simp only [compL, wipe_tg, h1]
    simp only [List.length_cons] at hl
    cases hp : p d with
    | false =>
      simp only [restE_one hv]
      rw [compL_filter hv ds acc (by omega) fun d' hd => h d' (by simp [hd])]
      simp [hp]
    | true =>
      obtain ⟨x, h3, h4⟩ := h2 hp
      simp only [h3, h4, restE_one hv]
      rw [if_pos (by omega), compL_filter hv ds (acc ++ [F d]) (by simp; omega) fun d' hd => h d' (by simp [hd])]
      simp [hp]
theorem sLc_filter {v : Nat} {g : SD} {c : TL.SB} {f : SF} {env : TL.Env} {ds : List D} (p : D → Bool) (F : D → D) (hg : g env = .ok ds env) (hv : v < env.length) (hp : plainAt env v = true) (hl : ds.length ≤ lim)
    (h : ∀ d ∈ ds, c (env.set v (.imm d)) = .ok (p d) (env.set v (.imm d)) ∧ (p d = true → ∃ x, f (env.set v (.imm d)) = .ok x (env.set v (.imm d)) ∧ frz x (env.set v (.imm d)) = .ok (F d) (env.set v (.imm d)))) :
    sLc [v] g (tgN v) c f env = .ok (.cell ((ds.filter p).map F)) env := by
  simp only [sLc, hg, Out.bind_ok, List.all_cons, List.all_nil, hp, Bool.and_true, if_true]
  rw [compL_filter hv ds [] (by simpa using hl) h]
  simp
theorem sLc_map {v : Nat} {g : SD} {f : SF} {env : TL.Env} {ds : List D} (F : D → D) (hg : g env = .ok ds env) (hv : v < env.length) (hp : plainAt env v = true) (hl : ds.length ≤ lim)
    (h : ∀ d ∈ ds, ∃ x, f (env.set v (.imm d)) = .ok x (env.set v (.imm d)) ∧ frz x (env.set v (.imm d)) = .ok (F d) (env.set v (.imm d))) :
    sLc [v] g (tgN v) bYes f env = .ok (.cell (ds.map F)) env := by
  have q := sLc_filter (c := bYes) (fun _ => true) F hg hv hp hl fun d hd => ⟨rfl, fun _ => h d hd⟩
  rw [q, List.filter_eq_self.mpr (by simp)]
/-- a loop that keeps a statement -/
theorem loop_inv {t : D → TL.Env → Option TL.Env} {b : SS} (Inv : Nat → TL.Env → Prop) : ∀ (ds : List D) (k : Nat) (e : TL.Env), Inv k e →
    (∀ i d e, ds[i]? = some d → Inv (k + i) e → ∃ e1, t d e = some e1 ∧ ∃ e2, (b e1 = .nx e2 ∨ b e1 = .ct e2) ∧ Inv (k + i + 1) e2) → ∃ e', loopF t b ds e = .nx e' ∧ Inv (k + ds.length) e'
  | [], k, e, h, _ => ⟨e, rfl, h⟩
  | d :: ds, k, e, h, hb => by
    obtain ⟨e1, h1, e2, h2, h3⟩ := hb 0 d e rfl h
    obtain ⟨e', h4, h5⟩ := loop_inv Inv ds (k + 1) e2 h3 fun i d' e' hd hi => by
      have := hb (i + 1) d' e' (by simpa using hd) (by rw [show k + (i + 1) = k + 1 + i by omega]; exact hi)
      rw [show k + (i + 1) + 1 = k + 1 + i + 1 by omega] at this
      exact this
    refine ⟨e', ?_, by rw [List.length_cons, show k + (ds.length + 1) = k + 1 + ds.length by omega]; exact h5⟩
    rcases h2 with h2 | h2 <;> simp only [loopF, h1, h2, h4]
def plSl : Sl → Bool | .own _ => false | .deep _ => false | _ => true
theorem plainAt_of {env : TL.Env} {v : Nat} {s : Sl} (h : env[v]? = some s) (hp : plSl s = true) : plainAt env v = true := by
  unfold plainAt
  rw [h]
  cases s <;> first | rfl | cases hp
theorem lim_def : lim = 16777216 := rfl
/-- (for any whole number: the kernel must not look at a cast within the bounds' test) -/
theorem rng1_int {f : SF} {e : TL.Env} {n : Int} (hf : f e = .ok (.imm (.int n)) e) (h : inR n = true) : sRng1 f e = .ok ((List.range n.toNat).map fun k : Nat => .int k) e := by
  simp only [sRng1, hf, Out.bind_ok, h, if_true]
theorem rng2_int {f g : SF} {e : TL.Env} {m n : Int} (hf : f e = .ok (.imm (.int m)) e) (hg : g e = .ok (.imm (.int n)) e) (h : inR m = true) (h' : inR n = true) : sRng2 f g e = .ok ((List.range (n - m).toNat).map fun k : Nat => .int (m + k)) e := by
  simp only [sRng2, hf, hg, Out.bind_ok, h, h', and_self, if_true]
theorem inR_small {n : Int} (h0 : -1000000 ≤ n) (hn : n < 1000000) : inR n = true := inR_iff.mpr ⟨by omega, by omega⟩
theorem rng1_ok {f : SF} {e : TL.Env} {n : Nat} (hf : f e = .ok (.imm (.int n)) e) (hn : n < 1000000) : sRng1 f e = .ok ((List.range n).map fun k : Nat => .int k) e :=
  (rng1_int hf (inR_small (by omega) (by omega))).trans (by rw [Int.toNat_natCast])
def mI (g : Int → D) : D → D | .int k => g k | _ => .non
theorem mI_range {g : Int → D} {n : Nat} : ((List.range n).map fun k : Nat => D.int k).map (mI g) = (List.range n).map fun k : Nat => g k := by
  rw [List.map_map]; rfl
/-- Euclid -/
theorem while_gcd {c : TL.SB} {b : SS} {E : Int → Int → TL.Env} (hc : ∀ x y, c (E x y) = .ok (decide (0 < y)) (E x y)) (hb : ∀ x y : Int, 0 < y → b (E x y) = .nx (E y (x % y))) :
    ∀ (n : Nat) (x y : Int), 0 ≤ x → 0 ≤ y → y.toNat < n → whileF c b n (E x y) = .nx (E (Int.gcd x y) 0)
  | 0, _, _, _, _, h => by omega
  | n + 1, x, y, hx, hy, h => by
    simp only [whileF, hc, eB_ok]
    by_cases h0 : 0 < y
    · simp only [h0, decide_true, if_true, hb x y h0]
      rw [while_gcd hc hb n y (x % y) hy (Int.emod_nonneg _ (by omega)) (by
        have := Int.emod_lt_of_pos x h0
        have := Int.emod_nonneg x (show y ≠ 0 by omega)
        omega)]
      have : Int.gcd y (x % y) = Int.gcd x y := by
        obtain ⟨a, rfl⟩ := Int.eq_ofNat_of_zero_le hx
        obtain ⟨b, rfl⟩ := Int.eq_ofNat_of_zero_le hy
        rw [← Int.natCast_emod, Int.gcd_natCast_natCast, Int.gcd_natCast_natCast, Nat.gcd_comm b, ← Nat.gcd_rec, Nat.gcd_comm]
      rw [this]
    · have : y = 0 := by omega
      subst this
      simp [Int.natAbs_of_nonneg hx]
end TL

set_option Elab.async false
set_option linter.all false
set_option autoImplicit false
set_option maxRecDepth 100000
set_option maxHeartbeats 4000000
namespace K81
open PySem PySem.Spec PyProof.Rows L2 TL
def topS (i : Nat) : Stmt := PySem.Challenge.pw_wordsturned_k81_whole_words_of_lines.main.body.getD i (.Pass ⟨0, 0, 0, 0⟩)
def st__law_purse : Stmt := topS 29
def st__law_same : Stmt := topS 28
def st__law_draw : Stmt := topS 30
def st__law_divisor : Stmt := topS 20
def st__law_lowest : Stmt := topS 21
def st__law_line : Stmt := topS 22
def st__law_drawn_line : Stmt := topS 23
def st__law_least : Stmt := topS 25
def st_is_whole : Stmt := topS 6
def st_is_count : Stmt := topS 7
def st_check_size : Stmt := topS 15
def st_height_at : Stmt := topS 13
def st_line_by : Stmt := topS 14
def st_divisor_of : Stmt := topS 9
def st_lowest : Stmt := topS 10
def st_least_by : Stmt := topS 17
def st_least_line : Stmt := topS 18
def st_is_part_by : Stmt := topS 11
def st_is_start_by : Stmt := topS 12
def st_line_word : Stmt := topS 16
def st__law_pick : Stmt := topS 31
def st__law_words : Stmt := topS 26
def st__law_turned : Stmt := topS 27
def st__law_balanced : Stmt := topS 24
def st_law : Stmt := topS 32
def N__law_purse : List Str := ["script", "seed", "cell"]
theorem nd__law_purse : N__law_purse.Nodup := by decide +kernel
theorem sc__law_purse : FnScope N__law_purse ["script"] (C8.fnScope st__law_purse) := C8.fnScope_by (by decide +kernel)
theorem bp__law_purse : BindsP "_law_purse" st__law_purse ["script"] := fun _ _ _ _ _ _ us h => match us, h with | [_], _ => rfl
def N__law_same : List Str := ["told", "due", "alike", "one", "other"]
theorem nd__law_same : N__law_same.Nodup := by decide +kernel
theorem sc__law_same : FnScope N__law_same ["told", "due"] (C8.fnScope st__law_same) := C8.fnScope_by (by decide +kernel)
theorem bp__law_same : BindsP "_law_same" st__law_same ["told", "due"] := fun _ _ _ _ _ _ us h => match us, h with | [_, _], _ => rfl
def N__law_draw : List Str := ["purse", "many", "told", "stirred"]
theorem nd__law_draw : N__law_draw.Nodup := by decide +kernel
theorem sc__law_draw : FnScope N__law_draw ["purse", "many"] (C8.fnScope st__law_draw) := C8.fnScope_by (by decide +kernel)
theorem bp__law_draw : BindsP "_law_draw" st__law_draw ["purse", "many"] := fun _ _ _ _ _ _ us h => match us, h with | [_, _], _ => rfl
def N__law_divisor : List Str := ["one", "other"]
theorem nd__law_divisor : N__law_divisor.Nodup := by decide +kernel
theorem sc__law_divisor : FnScope N__law_divisor ["one", "other"] (C8.fnScope st__law_divisor) := C8.fnScope_by (by decide +kernel)
theorem bp__law_divisor : BindsP "_law_divisor" st__law_divisor ["one", "other"] := fun _ _ _ _ _ _ us h => match us, h with | [_, _], _ => rfl
def N__law_lowest : List Str := ["top", "under", "shared"]
theorem nd__law_lowest : N__law_lowest.Nodup := by decide +kernel
theorem sc__law_lowest : FnScope N__law_lowest ["top", "under"] (C8.fnScope st__law_lowest) := C8.fnScope_by (by decide +kernel)
theorem bp__law_lowest : BindsP "_law_lowest" st__law_lowest ["top", "under"] := fun _ _ _ _ _ _ us h => match us, h with | [_, _], _ => rfl
def N__law_line : List Str := ["slope", "start", "many", "under", "heights", "place", "at"]
theorem nd__law_line : N__law_line.Nodup := by decide +kernel
theorem sc__law_line : FnScope N__law_line ["slope", "start", "many"] (C8.fnScope st__law_line) := C8.fnScope_by (by decide +kernel)
theorem bp__law_line : BindsP "_law_line" st__law_line ["slope", "start", "many"] := fun _ _ _ _ _ _ us h => match us, h with | [_, _, _], _ => rfl
def N__law_drawn_line : List Str := ["purse", "many", "under", "slope", "low", "start"]
theorem nd__law_drawn_line : N__law_drawn_line.Nodup := by decide +kernel
theorem sc__law_drawn_line : FnScope N__law_drawn_line ["purse", "many"] (C8.fnScope st__law_drawn_line) := C8.fnScope_by (by decide +kernel)
theorem bp__law_drawn_line : BindsP "_law_drawn_line" st__law_drawn_line ["purse", "many"] := fun _ _ _ _ _ _ us h => match us, h with | [_, _], _ => rfl
def N__law_least : List Str := ["rests", "hits"]
theorem nd__law_least : N__law_least.Nodup := by decide +kernel
theorem sc__law_least : FnScope N__law_least ["rests", "hits"] (C8.fnScope st__law_least) := C8.fnScope_by (by decide +kernel)
theorem bp__law_least : BindsP "_law_least" st__law_least ["rests", "hits"] := fun _ _ _ _ _ _ us h => match us, h with | [_, _], _ => rfl
def N_is_whole : List Str := ["value"]
theorem nd_is_whole : N_is_whole.Nodup := by decide +kernel
theorem sc_is_whole : FnScope N_is_whole ["value"] (C8.fnScope st_is_whole) := C8.fnScope_by (by decide +kernel)
theorem bp_is_whole : BindsP "is_whole" st_is_whole ["value"] := fun _ _ _ _ _ _ us h => match us, h with | [_], _ => rfl
def N_is_count : List Str := ["value"]
theorem nd_is_count : N_is_count.Nodup := by decide +kernel
theorem sc_is_count : FnScope N_is_count ["value"] (C8.fnScope st_is_count) := C8.fnScope_by (by decide +kernel)
theorem bp_is_count : BindsP "is_count" st_is_count ["value"] := fun _ _ _ _ _ _ us h => match us, h with | [_], _ => rfl
def N_check_size : List Str := ["many", "most"]
theorem nd_check_size : N_check_size.Nodup := by decide +kernel
theorem sc_check_size : FnScope N_check_size ["many", "most"] (C8.fnScope st_check_size) := C8.fnScope_by (by decide +kernel)
theorem bp_check_size : BindsP "check_size" st_check_size ["many", "most"] := fun _ _ _ _ _ _ us h => match us, h with | [_, _], _ => rfl
def N_height_at : List Str := ["slope", "start", "place"]
theorem nd_height_at : N_height_at.Nodup := by decide +kernel
theorem sc_height_at : FnScope N_height_at ["slope", "start", "place"] (C8.fnScope st_height_at) := C8.fnScope_by (by decide +kernel)
theorem bp_height_at : BindsP "height_at" st_height_at ["slope", "start", "place"] := fun _ _ _ _ _ _ us h => match us, h with | [_, _, _], _ => rfl
def N_line_by : List Str := ["slope", "start", "many", "heights", "place", "at"]
theorem nd_line_by : N_line_by.Nodup := by decide +kernel
theorem sc_line_by : FnScope N_line_by ["slope", "start", "many"] (C8.fnScope st_line_by) := C8.fnScope_by (by decide +kernel)
theorem bp_line_by : BindsP "line_by" st_line_by ["slope", "start", "many"] := fun _ _ _ _ _ _ us h => match us, h with | [_, _, _], _ => rfl
def N_divisor_of : List Str := ["one", "other"]
theorem nd_divisor_of : N_divisor_of.Nodup := by decide +kernel
theorem sc_divisor_of : FnScope N_divisor_of ["one", "other"] (C8.fnScope st_divisor_of) := C8.fnScope_by (by decide +kernel)
theorem bp_divisor_of : BindsP "divisor_of" st_divisor_of ["one", "other"] := fun _ _ _ _ _ _ us h => match us, h with | [_, _], _ => rfl
def N_lowest : List Str := ["top", "under", "shared"]
theorem nd_lowest : N_lowest.Nodup := by decide +kernel
theorem sc_lowest : FnScope N_lowest ["top", "under"] (C8.fnScope st_lowest) := C8.fnScope_by (by decide +kernel)
theorem bp_lowest : BindsP "lowest" st_lowest ["top", "under"] := fun _ _ _ _ _ _ us h => match us, h with | [_, _], _ => rfl
def N_least_by : List Str := ["rests", "hits"]
theorem nd_least_by : N_least_by.Nodup := by decide +kernel
theorem sc_least_by : FnScope N_least_by ["rests", "hits"] (C8.fnScope st_least_by) := C8.fnScope_by (by decide +kernel)
theorem bp_least_by : BindsP "least_by" st_least_by ["rests", "hits"] := fun _ _ _ _ _ _ us h => match us, h with | [_, _], _ => rfl
def N_least_line : List Str := ["rests", "hits"]
theorem nd_least_line : N_least_line.Nodup := by decide +kernel
theorem sc_least_line : FnScope N_least_line ["rests", "hits"] (C8.fnScope st_least_line) := C8.fnScope_by (by decide +kernel)
theorem bp_least_line : BindsP "least_line" st_least_line ["rests", "hits"] := fun _ _ _ _ _ _ us h => match us, h with | [_, _], _ => rfl
def N_is_part_by : List Str := ["value", "one"]
theorem nd_is_part_by : N_is_part_by.Nodup := by decide +kernel
theorem sc_is_part_by : FnScope N_is_part_by ["value"] (C8.fnScope st_is_part_by) := C8.fnScope_by (by decide +kernel)
theorem bp_is_part_by : BindsP "is_part_by" st_is_part_by ["value"] := fun _ _ _ _ _ _ us h => match us, h with | [_], _ => rfl
def N_is_start_by : List Str := ["value"]
theorem nd_is_start_by : N_is_start_by.Nodup := by decide +kernel
theorem sc_is_start_by : FnScope N_is_start_by ["value"] (C8.fnScope st_is_start_by) := C8.fnScope_by (by decide +kernel)
theorem bp_is_start_by : BindsP "is_start_by" st_is_start_by ["value"] := fun _ _ _ _ _ _ us h => match us, h with | [_], _ => rfl
def N_line_word : List Str := ["slope", "start", "many"]
theorem nd_line_word : N_line_word.Nodup := by decide +kernel
theorem sc_line_word : FnScope N_line_word ["slope", "start", "many"] (C8.fnScope st_line_word) := C8.fnScope_by (by decide +kernel)
theorem bp_line_word : BindsP "line_word" st_line_word ["slope", "start", "many"] := fun _ _ _ _ _ _ us h => match us, h with | [_, _, _], _ => rfl
def N__law_pick : List Str := ["purse", "things"]
theorem nd__law_pick : N__law_pick.Nodup := by decide +kernel
theorem sc__law_pick : FnScope N__law_pick ["purse", "things"] (C8.fnScope st__law_pick) := C8.fnScope_by (by decide +kernel)
theorem bp__law_pick : BindsP "_law_pick" st__law_pick ["purse", "things"] := fun _ _ _ _ _ _ us h => match us, h with | [_, _], _ => rfl
def N__law_words : List Str := ["size", "found", "place", "longer", "word"]
theorem nd__law_words : N__law_words.Nodup := by decide +kernel
theorem sc__law_words : FnScope N__law_words ["size"] (C8.fnScope st__law_words) := C8.fnScope_by (by decide +kernel)
theorem bp__law_words : BindsP "_law_words" st__law_words ["size"] := fun _ _ _ _ _ _ us h => match us, h with | [_], _ => rfl
def N__law_turned : List Str := ["word", "at"]
theorem nd__law_turned : N__law_turned.Nodup := by decide +kernel
theorem sc__law_turned : FnScope N__law_turned ["word"] (C8.fnScope st__law_turned) := C8.fnScope_by (by decide +kernel)
theorem bp__law_turned : BindsP "_law_turned" st__law_turned ["word"] := fun _ _ _ _ _ _ us h => match us, h with | [_], _ => rfl
def N__law_balanced : List Str := ["word", "size", "counts", "at"]
theorem nd__law_balanced : N__law_balanced.Nodup := by decide +kernel
theorem sc__law_balanced : FnScope N__law_balanced ["word"] (C8.fnScope st__law_balanced) := C8.fnScope_by (by decide +kernel)
theorem bp__law_balanced : BindsP "_law_balanced" st__law_balanced ["word"] := fun _ _ _ _ _ _ us h => match us, h with | [_], _ => rfl
def N_law : List Str := ["script", "purse", "turn", "many", "slope", "start", "due", "rests", "hits", "least", "some", "word", "one"]
theorem nd_law : N_law.Nodup := by decide +kernel
theorem sc_law : FnScope N_law ["script"] (C8.fnScope st_law) := C8.fnScope_by (by decide +kernel)
theorem bp_law : BindsP "law" st_law ["script"] := fun _ _ _ _ _ _ us h => match us, h with | [_], _ => rfl
/-! semantic functions -/
def b__law_purse : SS := sSeq (sAsg 1 (sC (.int 7))) (sSeq (sFor (sIt itemsL (sSl (sVar 0) (oNone) (oSome (sC (.int 63))))) (tgN 2) (sAsg 1 (sC2 gMod (sCn (one gInt) (aCons (sC2 gAdd (sC2 gMul (sVar 1) (sC (.int 31))) (sVar 2)) (aNil))) (sC (.int 2147483647))))) (sRet (sLst (dCons (sLc [2] (sIt itemsL (sSl (sVar 0) (oNone) (oSome (sC (.int 63))))) (tgN 2) (tBool (sC2 gGe (sVar 2) (sC2 gPow (sC (.int 10)) (sC (.int 18))))) (sVar 2)) (dCons (sC (.int 0)) (dCons (sC (.int 0)) (dCons (sC (.int 0)) (dCons (sVar 1) (dNil)))))))))
def f__law_purse : List D → FO := runP 3 b__law_purse
def b__law_same (self : List D → FO) : SS := sSeq (sIfS (tBool (sR2 gIs (sVar 1) (sC .non))) (sRet (sR2 gIs (sVar 0) (sC .non))) (sSkip)) (sSeq (sIfS (tBool (sR2 gIs (sVar 1) (sC (.bl true)))) (sRet (sR2 gIs (sVar 0) (sC (.bl true)))) (sSkip)) (sSeq (sIfS (tBool (sR2 gIs (sVar 1) (sC (.bl false)))) (sRet (sR2 gIs (sVar 0) (sC (.bl false)))) (sSkip)) (sSeq (sIfS (tTru (sIsaLT (sVar 1))) (sSeq (sAsg 2 (sIf (tTru (sIsa "list" (sVar 1))) (sIsa "list" (sVar 0)) (sIsa "tuple" (sVar 0)))) (sRet (sAn (sVar 2) (sAn (sR2 gEq (sRn (one gLen) (aCons (sVar 0) (aNil))) (sRn (one gLen) (aCons (sVar 1) (aNil)))) (sCn (one gAll) (aCons (sLc [3, 4] (sZipA (sVar 0) (sVar 1)) (tgT 2 (tgCons (tgN 3) (tgCons (tgN 4) (tgNil)))) (bYes) (sCallP 2 self (dCons (sVar 3) (dCons (sVar 4) (dNil))))) (aNil))))))) (sSkip)) (sSeq (sIfS (tTru (sIsa "int" (sVar 1))) (sRet (sAn (sIsa "int" (sVar 0)) (sAn (sNo (sIsa "bool" (sVar 0))) (sR2 gEq (sVar 0) (sVar 1))))) (sSkip)) (sRet (sAn (sIsa "str" (sVar 0)) (sR2 gEq (sVar 0) (sVar 1))))))))
def f__law_same : Nat → List D → FO
  | 0 => fun _ => .bad
  | k + 1 => runP 5 (b__law_same (f__law_same k))
def b__law_draw : SS := sSeq (sIfS (tAn (tBool (sC2 gLt (sC2 gIx (sOwn 0) (sC (.int 2))) (sVar 1))) (tBool (sC2 gLt (sC2 gIx (sOwn 0) (sC (.int 1))) (sRn (one gLen) (aCons (sC2 gIx (sOwn 0) (sC (.int 0))) (aNil)))))) (sSeq (sSet 0 (sC2 gIx (sC2 gIx (sOwn 0) (sC (.int 0))) (sC2 gIx (sOwn 0) (sC (.int 1)))) (sC (.int 2))) (sAugS 0 (sC (.int 1)) (fun a b => a + b) (sC (.int 1)))) (sSkip)) (sSeq (sIfS (tBool (sC2 gGe (sC2 gIx (sOwn 0) (sC (.int 2))) (sVar 1))) (sSeq (sAsg 2 (sC2 gMod (sCn (one gInt) (aCons (sC2 gIx (sOwn 0) (sC (.int 2))) (aNil))) (sVar 1))) (sSeq (sSet 0 (sC2 gDiv (sC2 gIx (sOwn 0) (sC (.int 2))) (sVar 1)) (sC (.int 2))) (sRet (sVar 2)))) (sSkip)) (sSeq (sAugS 0 (sC (.int 3)) (fun a b => a + b) (sC (.int 1))) (sSeq (sAsg 3 (sC2 gMod (sCn (one gInt) (aCons (sC2 gMul (sC2 gAdd (sC2 gMul (sC2 gIx (sOwn 0) (sC (.int 3))) (sC2 gIx (sOwn 0) (sC (.int 3)))) (sC2 gIx (sOwn 0) (sC (.int 4)))) (sC (.int 48271))) (aNil))) (sC (.int 2147483629)))) (sRet (sC2 gMod (sCn (one gInt) (aCons (sC2 gMod (sCn (one gInt) (aCons (sC2 gMul (sVar 3) (sVar 3)) (aNil))) (sC (.int 2147483587))) (aNil))) (sVar 1))))))
def f__law_draw : List D → List D → FG := runG 4 b__law_draw
def fu__law_divisor : TL.Env → Nat := fun e => match e[(1 : Nat)]? with | some (.imm (.int b)) => b.toNat + 1 | _ => 0
def b__law_divisor : SS := sSeq (sWhile fu__law_divisor (tBool (sC2 gGt (sVar 1) (sC (.int 0)))) (sPar 0 1 (dCons (sVar 1) (dCons (sC2 gMod (sCn (one gInt) (aCons (sVar 0) (aNil))) (sVar 1)) (dNil))))) (sRet (sVar 0))
def f__law_divisor : List D → FO := runP 2 b__law_divisor
def b__law_lowest : SS := sSeq (sAsg 2 (sCallP 2 f__law_divisor (dCons (sVar 0) (dCons (sVar 1) (dNil))))) (sRet (sTup (dCons (sC2 gDiv (sVar 0) (sVar 2)) (dCons (sC2 gDiv (sVar 1) (sVar 2)) (dNil)))))
def f__law_lowest : List D → FO := runP 3 b__law_lowest
def b__law_line : SS := sSeq (sAsg 3 (sC2 gMul (sC2 gIx (sVar 0) (sC (.int 1))) (sC2 gIx (sVar 1) (sC (.int 1))))) (sSeq (sAsg 4 (sLc [5] (sRng1 (sC2 gAdd (sVar 2) (sC (.int 1)))) (tgN 5) (bYes) (sC2 gDiv (sC2 gAdd (sC2 gMul (sC2 gMul (sVar 5) (sC2 gIx (sVar 0) (sC (.int 0)))) (sC2 gIx (sVar 1) (sC (.int 1)))) (sC2 gMul (sC2 gIx (sVar 1) (sC (.int 0))) (sC2 gIx (sVar 0) (sC (.int 1))))) (sVar 3)))) (sRet (sCm "str" gJoin (sC (.str [])) (aCons (sLc [6] (sRng1 (sVar 2)) (tgN 6) (bYes) (sC2 gIx (sLst (dCons (sC (.str [97])) (dCons (sC (.str [98])) (dNil)))) (sC2 gSub (sC2 gIx (sVar 4) (sC2 gAdd (sVar 6) (sC (.int 1)))) (sC2 gIx (sVar 4) (sVar 6))))) (aNil)))))
def f__law_line : List D → FO := runP 7 b__law_line
def b__law_drawn_line : SS := sSeq (sAsg 2 (sC2 gAdd (sC (.int 1)) (sCallG 2 0 f__law_draw (dCons (sC (.int 9)) (dNil))))) (sSeq (sAsg 3 (sCallP 2 f__law_lowest (dCons (sCallG 2 0 f__law_draw (dCons (sC2 gAdd (sVar 2) (sC (.int 1))) (dNil))) (dCons (sVar 2) (dNil))))) (sSeq (sAsg 4 (sC2 gAdd (sC (.int 1)) (sCallG 2 0 f__law_draw (dCons (sC (.int 9)) (dNil))))) (sSeq (sAsg 5 (sCallP 2 f__law_lowest (dCons (sCallG 2 0 f__law_draw (dCons (sVar 4) (dNil))) (dCons (sVar 4) (dNil))))) (sRet (sTup (dCons (sVar 3) (dCons (sVar 5) (dCons (sCallP 3 f__law_line (dCons (sVar 3) (dCons (sVar 5) (dCons (sVar 1) (dNil))))) (dNil)))))))))
def f__law_drawn_line : List D → List D → FG := runG 6 b__law_drawn_line
def b__law_least : SS := sRet (sIf (tBool (sC2 gGt (sC2 gAdd (sVar 0) (sVar 1)) (sC (.int 0)))) (sCallP 3 f__law_line (dCons (sCallP 2 f__law_lowest (dCons (sVar 1) (dCons (sC2 gAdd (sVar 0) (sVar 1)) (dNil)))) (dCons (sTup (dCons (sC (.int 0)) (dCons (sC (.int 1)) (dNil)))) (dCons (sC2 gAdd (sVar 0) (sVar 1)) (dNil))))) (sC (.str [])))
def f__law_least : List D → FO := runP 2 b__law_least
def b_is_whole : SS := sRet (sAn (sIsa "int" (sVar 0)) (sNo (sIsa "bool" (sVar 0))))
def f_is_whole : List D → FO := runP 1 b_is_whole
def b_is_count : SS := sRet (sAn (sCallP 1 f_is_whole (dCons (sVar 0) (dNil))) (sC2 gGe (sVar 0) (sC (.int 0))))
def f_is_count : List D → FO := runP 1 b_is_count
def b_check_size : SS := sIfS (tOr' (tNo (tTru (sCallP 1 f_is_count (dCons (sVar 0) (dNil))))) (tBool (sC2 gGt (sVar 0) (sVar 1)))) (sBad) (sSkip)
def f_check_size : List D → FO := runP 2 b_check_size
def b_height_at : SS := sRet (sC2 gDiv (sC2 gAdd (sC2 gMul (sC2 gMul (sVar 2) (sC2 gIx (sVar 0) (sC (.int 0)))) (sC2 gIx (sVar 1) (sC (.int 1)))) (sC2 gMul (sC2 gIx (sVar 1) (sC (.int 0))) (sC2 gIx (sVar 0) (sC (.int 1))))) (sC2 gMul (sC2 gIx (sVar 0) (sC (.int 1))) (sC2 gIx (sVar 1) (sC (.int 1)))))
def f_height_at : List D → FO := runP 3 b_height_at
def b_line_by : SS := sSeq (sAsg 3 (sLc [4] (sRng1 (sC2 gAdd (sVar 2) (sC (.int 1)))) (tgN 4) (bYes) (sCallP 3 f_height_at (dCons (sVar 0) (dCons (sVar 1) (dCons (sVar 4) (dNil))))))) (sRet (sCm "str" gJoin (sC (.str [])) (aCons (sLc [5] (sRng1 (sVar 2)) (tgN 5) (bYes) (sIf (tBool (sC2 gGt (sC2 gIx (sVar 3) (sC2 gAdd (sVar 5) (sC (.int 1)))) (sC2 gIx (sVar 3) (sVar 5)))) (sC (.str [98])) (sC (.str [97])))) (aNil))))
def f_line_by : List D → FO := runP 6 b_line_by
def fu_divisor_of : TL.Env → Nat := fun e => match e[(1 : Nat)]? with | some (.imm (.int b)) => b.toNat + 1 | _ => 0
def b_divisor_of : SS := sSeq (sWhile fu_divisor_of (tBool (sC2 gGt (sVar 1) (sC (.int 0)))) (sPar 0 1 (dCons (sVar 1) (dCons (sC2 gMod (sVar 0) (sVar 1)) (dNil))))) (sRet (sVar 0))
def f_divisor_of : List D → FO := runP 2 b_divisor_of
def b_lowest : SS := sSeq (sAsg 2 (sCallP 2 f_divisor_of (dCons (sCn (one gAbs) (aCons (sVar 0) (aNil))) (dCons (sVar 1) (dNil))))) (sRet (sTup (dCons (sC2 gDiv (sVar 0) (sVar 2)) (dCons (sC2 gDiv (sVar 1) (sVar 2)) (dNil)))))
def f_lowest : List D → FO := runP 3 b_lowest
def b_least_by : SS := sSeq (sIfS (tBool (sR2 gEq (sC2 gAdd (sVar 0) (sVar 1)) (sC (.int 0)))) (sRet (sC (.str []))) (sSkip)) (sRet (sCallP 3 f_line_by (dCons (sCallP 2 f_lowest (dCons (sVar 1) (dCons (sC2 gAdd (sVar 0) (sVar 1)) (dNil)))) (dCons (sTup (dCons (sC (.int 0)) (dCons (sC (.int 1)) (dNil)))) (dCons (sC2 gAdd (sVar 0) (sVar 1)) (dNil))))))
def f_least_by : List D → FO := runP 2 b_least_by
def b_least_line : SS := sSeq (sDrop (sCallP 2 f_check_size (dCons (sVar 0) (dCons (sC (.int 24)) (dNil))))) (sSeq (sDrop (sCallP 2 f_check_size (dCons (sVar 1) (dCons (sC (.int 24)) (dNil))))) (sSeq (sIfS (tBool (sC2 gGt (sC2 gAdd (sVar 0) (sVar 1)) (sC (.int 24)))) (sBad) (sSkip)) (sRet (sCallP 2 f_least_by (dCons (sVar 0) (dCons (sVar 1) (dNil)))))))
def f_least_line : List D → FO := runP 2 b_least_line
def b_is_part_by : SS := sSeq (sIfS (tOr' (tNo (tTru (sIsa "tuple" (sVar 0)))) (tOr' (tBool (sR2 gNe (sRn (one gLen) (aCons (sVar 0) (aNil))) (sC (.int 2)))) (tNo (tTru (sCn (one gAll) (aCons (sLc [1] (sIt itemsT (sVar 0)) (tgN 1) (bYes) (sCallP 1 f_is_whole (dCons (sVar 1) (dNil)))) (aNil))))))) (sRet (sC (.bl false))) (sSkip)) (sRet (sAn (sChn gLe gLe (sC (.int 0)) (sC2 gIx (sVar 0) (sC (.int 0))) (sC2 gIx (sVar 0) (sC (.int 1)))) (sAn (sC2 gGt (sC2 gIx (sVar 0) (sC (.int 1))) (sC (.int 0))) (sR2 gEq (sCallP 2 f_divisor_of (dCons (sC2 gIx (sVar 0) (sC (.int 0))) (dCons (sC2 gIx (sVar 0) (sC (.int 1))) (dNil)))) (sC (.int 1))))))
def f_is_part_by : List D → FO := runP 2 b_is_part_by
def b_is_start_by : SS := sRet (sAn (sCallP 1 f_is_part_by (dCons (sVar 0) (dNil))) (sC2 gLt (sC2 gIx (sVar 0) (sC (.int 0))) (sC2 gIx (sVar 0) (sC (.int 1)))))
def f_is_start_by : List D → FO := runP 1 b_is_start_by
def b_line_word : SS := sSeq (sIfS (tNo (tTru (sCallP 1 f_is_part_by (dCons (sVar 0) (dNil))))) (sBad) (sSkip)) (sSeq (sIfS (tNo (tTru (sCallP 1 f_is_start_by (dCons (sVar 1) (dNil))))) (sBad) (sSkip)) (sSeq (sDrop (sCallP 2 f_check_size (dCons (sVar 2) (dCons (sC (.int 24)) (dNil))))) (sRet (sCallP 3 f_line_by (dCons (sVar 0) (dCons (sVar 1) (dCons (sVar 2) (dNil))))))))
def f_line_word : List D → FO := runP 3 b_line_word
def b__law_pick : SS := sRet (sC2 gIx (sVar 1) (sCallG 2 0 f__law_draw (dCons (sRn (one gLen) (aCons (sVar 1) (aNil))) (dNil))))
def f__law_pick : List D → List D → FG := runG 2 b__law_pick
def b__law_words : SS := sSeq (sAsg 1 (sLst (dCons (sC (.str [])) (dNil)))) (sSeq (sFor (sRng1 (sVar 0)) (tgN 2) (sSeq (sAsg 3 (sLst (dNil))) (sSeq (sFor (sIt itemsL (sVar 1)) (tgN 4) (sAsg 3 (sC2 gAdd (sVar 3) (sLst (dCons (sC2 gAdd (sVar 4) (sC (.str [97]))) (dCons (sC2 gAdd (sVar 4) (sC (.str [98]))) (dNil))))))) (sAsg 1 (sVar 3))))) (sRet (sVar 1)))
def f__law_words : List D → FO := runP 5 b__law_words
def b__law_turned : SS := sRet (sLc [1] (sRng1 (sRn (one gLen) (aCons (sVar 0) (aNil)))) (tgN 1) (bYes) (sC2 gAdd (sSl (sVar 0) (oSome (sVar 1)) (oNone)) (sSl (sVar 0) (oNone) (oSome (sVar 1)))))
def f__law_turned : List D → FO := runP 2 b__law_turned
def b__law_balanced : SS := sSeq (sFor (sRng2 (sC (.int 2)) (sRn (one gLen) (aCons (sVar 0) (aNil)))) (tgN 1) (sSeq (sAsg 2 (sLc [3] (sRng1 (sC2 gAdd (sC2 gSub (sRn (one gLen) (aCons (sVar 0) (aNil))) (sVar 1)) (sC (.int 1)))) (tgN 3) (bYes) (sCm "str" gCount (sSl (sVar 0) (oSome (sVar 3)) (oSome (sC2 gAdd (sVar 3) (sVar 1)))) (aCons (sC (.str [98])) (aNil))))) (sIfS (tBool (sC2 gGt (sC2 gSub (sCn gMax (aCons (sVar 2) (aNil))) (sCn gMin (aCons (sVar 2) (aNil)))) (sC (.int 1)))) (sRet (sC (.bl false))) (sSkip)))) (sRet (sC (.bl true)))
def f__law_balanced : List D → FO := runP 4 b__law_balanced
def b_law : SS := sSeq (sAsgO 1 (sCallP 1 f__law_purse (dCons (sVar 0) (dNil)))) (sSeq (sFor (sRng1 (sC (.int 10))) (tgN 2) (sSeq (sAsg 3 (sCallG 2 1 f__law_draw (dCons (sC (.int 25)) (dNil)))) (sSeq (sAsgT (tgT 3 (tgCons (tgN 4) (tgCons (tgN 5) (tgCons (tgN 6) (tgNil))))) (sCallG 2 1 f__law_drawn_line (dCons (sVar 3) (dNil)))) (sSeq (sIfS (tBool (sR2 gEq (sVar 2) (sC (.int 0)))) (sSeq (sPar 4 5 (dCons (sCallG 2 1 f__law_pick (dCons (sLst (dCons (sTup (dCons (sC (.int 999999998)) (dCons (sC (.int 999999999)) (dNil)))) (dCons (sTup (dCons (sC (.int 1)) (dCons (sC (.int 999999999)) (dNil)))) (dCons (sTup (dCons (sC (.int 499999999)) (dCons (sC (.int 999999999)) (dNil)))) (dNil))))) (dNil))) (dCons (sCallG 2 1 f__law_pick (dCons (sLst (dCons (sTup (dCons (sC (.int 0)) (dCons (sC (.int 1)) (dNil)))) (dCons (sTup (dCons (sC (.int 999999998)) (dCons (sC (.int 999999999)) (dNil)))) (dNil)))) (dNil))) (dNil)))) (sAsg 6 (sCallP 3 f__law_line (dCons (sVar 4) (dCons (sVar 5) (dCons (sVar 3) (dNil))))))) (sSkip)) (sSeq (sIfS (tNo (tTru (sCallP 2 (f__law_same 6) (dCons (sLst (dCons (sCallP 3 f_line_word (dCons (sVar 4) (dCons (sVar 5) (dCons (sVar 3) (dNil))))) (dCons (sCallK 3 0 3 [2, 1, 0] f_line_word dNil (dCons (sVar 3) (dCons (sVar 5) (dCons (sVar 4) (dNil))))) (dNil)))) (dCons (sLst (dCons (sVar 6) (dCons (sVar 6) (dNil)))) (dNil)))))) (sRet (sC (.bl false))) (sSkip)) (sSeq (sAsgT (tgT 2 (tgCons (tgN 7) (tgCons (tgN 8) (tgNil)))) (sTup (dCons (sCallG 2 1 f__law_draw (dCons (sC (.int 13)) (dNil))) (dCons (sCallG 2 1 f__law_draw (dCons (sC (.int 12)) (dNil))) (dNil))))) (sSeq (sAsg 9 (sCallP 2 f__law_least (dCons (sVar 7) (dCons (sVar 8) (dNil))))) (sSeq (sIfS (tOr' (tNo (tTru (sCallP 2 (f__law_same 6) (dCons (sLst (dCons (sCallP 2 f_least_line (dCons (sVar 7) (dCons (sVar 8) (dNil)))) (dCons (sCallK 2 0 2 [1, 0] f_least_line dNil (dCons (sVar 8) (dCons (sVar 7) (dNil)))) (dNil)))) (dCons (sLst (dCons (sVar 9) (dCons (sVar 9) (dNil)))) (dNil)))))) (tOr' (tBool (sR2 gNe (sCm "str" gCount (sVar 9) (aCons (sC (.str [98])) (aNil))) (sVar 8))) (tBool (sR2 gNe (sRn (one gLen) (aCons (sVar 9) (aNil))) (sC2 gAdd (sVar 7) (sVar 8)))))) (sRet (sC (.bl false))) (sSkip)) (sIfS (tAn (tBool (sC2 gLt (sC2 gAdd (sVar 7) (sVar 8)) (sC (.int 8)))) (tBool (sC2 gLt (sVar 2) (sC (.int 4))))) (sSeq (sAsg 10 (sLc [11] (sIt itemsL (sCallP 1 f__law_words (dCons (sC2 gAdd (sVar 7) (sVar 8)) (dNil)))) (tgN 11) (tAn (tBool (sR2 gEq (sCm "str" gCount (sVar 11) (aCons (sC (.str [98])) (aNil))) (sVar 8))) (tBool (sR2 gEq (sLc [12] (sIt itemsL (sCallP 1 f__law_turned (dCons (sVar 11) (dNil)))) (tgN 12) (tNo (tTru (sCallP 1 f__law_balanced (dCons (sVar 12) (dNil))))) (sVar 12)) (sLst (dNil))))) (sVar 11))) (sIfS (tBool (sR2 gNe (sCn gMin (aCons (sVar 10) (aNil))) (sVar 9))) (sRet (sC (.bl false))) (sSkip))) (sSkip)))))))))) (sRet (sCallP 2 (f__law_same 6) (dCons (sLst (dCons (sCallP 2 f_least_line (dCons (sC (.int 0)) (dCons (sC (.int 0)) (dNil)))) (dCons (sCallP 2 f_least_line (dCons (sC (.int 24)) (dCons (sC (.int 0)) (dNil)))) (dCons (sCallP 2 f_least_line (dCons (sC (.int 0)) (dCons (sC (.int 24)) (dNil)))) (dCons (sCallP 3 f_line_word (dCons (sTup (dCons (sC (.int 1)) (dCons (sC (.int 1)) (dNil)))) (dCons (sTup (dCons (sC (.int 0)) (dCons (sC (.int 1)) (dNil)))) (dCons (sC (.int 0)) (dNil))))) (dNil)))))) (dCons (sLst (dCons (sC (.str [])) (dCons (sC2 gMul (sC (.str [97])) (sC (.int 24))) (dCons (sC2 gMul (sC (.str [98])) (sC (.int 24))) (dCons (sC (.str [])) (dNil)))))) (dNil))))))
def f_law : List D → FO := runP 13 b_law
structure Gs (K : Fg) (mg : Str → Option Value) : Prop where
  n_abs : mg "abs" = none
  n_all : mg "all" = none
  n_bool : mg "bool" = none
  n_int : mg "int" = none
  n_isinstance : mg "isinstance" = none
  n_len : mg "len" = none
  n_list : mg "list" = none
  n_max : mg "max" = none
  n_min : mg "min" = none
  n_range : mg "range" = none
  n_str : mg "str" = none
  n_tuple : mg "tuple" = none
  n_zip : mg "zip" = none
  k_MOST_WORD : ∃ t, mg "MOST_WORD" = some (.int 24 t)
  d__law_purse : ∃ f fd, Df K mg "_law_purse" st__law_purse f fd
  d__law_same : ∃ f fd, Df K mg "_law_same" st__law_same f fd
  d__law_draw : ∃ f fd, Df K mg "_law_draw" st__law_draw f fd
  d__law_divisor : ∃ f fd, Df K mg "_law_divisor" st__law_divisor f fd
  d__law_lowest : ∃ f fd, Df K mg "_law_lowest" st__law_lowest f fd
  d__law_line : ∃ f fd, Df K mg "_law_line" st__law_line f fd
  d__law_drawn_line : ∃ f fd, Df K mg "_law_drawn_line" st__law_drawn_line f fd
  d__law_least : ∃ f fd, Df K mg "_law_least" st__law_least f fd
  d_is_whole : ∃ f fd, Df K mg "is_whole" st_is_whole f fd
  d_is_count : ∃ f fd, Df K mg "is_count" st_is_count f fd
  d_check_size : ∃ f fd, Df K mg "check_size" st_check_size f fd
  d_height_at : ∃ f fd, Df K mg "height_at" st_height_at f fd
  d_line_by : ∃ f fd, Df K mg "line_by" st_line_by f fd
  d_divisor_of : ∃ f fd, Df K mg "divisor_of" st_divisor_of f fd
  d_lowest : ∃ f fd, Df K mg "lowest" st_lowest f fd
  d_least_by : ∃ f fd, Df K mg "least_by" st_least_by f fd
  d_least_line : ∃ f fd, Df K mg "least_line" st_least_line f fd
  d_is_part_by : ∃ f fd, Df K mg "is_part_by" st_is_part_by f fd
  d_is_start_by : ∃ f fd, Df K mg "is_start_by" st_is_start_by f fd
  d_line_word : ∃ f fd, Df K mg "line_word" st_line_word f fd
  d__law_pick : ∃ f fd, Df K mg "_law_pick" st__law_pick f fd
  d__law_words : ∃ f fd, Df K mg "_law_words" st__law_words f fd
  d__law_turned : ∃ f fd, Df K mg "_law_turned" st__law_turned f fd
  d__law_balanced : ∃ f fd, Df K mg "_law_balanced" st__law_balanced f fd
  d_law : ∃ f fd, Df K mg "law" st_law f fd
section
variable {P : Program} {w : World} {K : Fg} {mg : Str → Option Value} {base : Heap} {ca : CaT}
theorem c__law_purse (G : Gs K mg)  : CalG P w K mg base C8.CX0 1 "_law_purse" st__law_purse ["script"] (spP K ca 1 f__law_purse) := by
  obtain ⟨f, fd, F⟩ := G.d__law_purse
  refine calG_P (k := 0) (N := N__law_purse) (b := b__law_purse) F sc__law_purse rfl fun cdv A outer s H E hr g => ?_
  have pas := pas_of (CX := C8.CX0) (P := P) (w := w) (K := K) (mg := mg) (base := base) (N := N__law_purse) (x := "_law_purse") (scope := C8.fnScope st__law_purse) (f := f) (cdv := cdv) (A := A) (outer := outer) (s := s) (H := H) (E := E)
  exact (s_cons (s_set (by decide) nd__law_purse rfl (.inl (by kernel_rfl)) r_int)
    (s_cons (s_for tgN_ok (by decide) pas g (i_list (r_sl (r_var rfl (.inl (by kernel_rfl))) o_none (o_some r_int))) (pg_name nd__law_purse rfl (.inl (by kernel_rfl)))
    (s_one (s_set (by decide) nd__law_purse rfl (.inl (by kernel_rfl)) (r_op op_modC (r_tC cr_int (gl_of (by kernel_rfl)) G.n_int (by rfl) (a_cons (r_op op_addC (r_op op_mulC (r_var rfl (.inl (by kernel_rfl))) r_int) (r_var rfl (.inl (by kernel_rfl)))) a_nil)) r_int))))
    (s_one (s_ret (r_lst (d_cons (r_lc (own := [("cell", 2)]) (T := _) g nd__law_purse (i_list (r_sl (r_var rfl (.inl (by kernel_rfl))) o_none (o_some r_int))) (blkOk_by (by kernel_rfl)) (fun _ _ _ _ _ => (pg_name nd__law_purse rfl (.inl (by kernel_rfl)))) (fun _ _ _ _ _ => (ts_1 (t_cmpC op_geC (r_var rfl (.inl (by kernel_rfl))) (r_op op_powC r_int r_int) (nomark _)))) (fun _ _ _ _ _ => (r_var rfl (.inl (by kernel_rfl)))) tgN_ok rfl (by decide)) (d_cons r_int (d_cons r_int (d_cons r_int (d_cons (r_var rfl (.inl (by kernel_rfl))) d_nil))))))))))
theorem c__law_same (G : Gs K mg)  : ∀ m : Nat, CalG P w K mg base C8.CX0 (0 + m) "_law_same" st__law_same ["told", "due"] (spP K ca 2 (f__law_same m))
  | 0 => by
    obtain ⟨f, fd, F⟩ := G.d__law_same
    exact calG_none F fun vs H Q E h => by
      obtain ⟨_, I, ds, _, _, h⟩ := h
      exact h
  | m + 1 => by
    have hs := c__law_same G  m
    obtain ⟨f, fd, F⟩ := G.d__law_same
    refine calG_P (k := 0 + m) (N := N__law_same) (b := b__law_same (f__law_same m)) F sc__law_same rfl fun cdv A outer s H E hr g => ?_
    have hk : 0 + m ≤ 0 + m := Nat.le_refl _
    have pas := pas_of (CX := C8.CX0) (P := P) (w := w) (K := K) (mg := mg) (base := base) (N := N__law_same) (x := "_law_same") (scope := C8.fnScope st__law_same) (f := f) (cdv := cdv) (A := A) (outer := outer) (s := s) (H := H) (E := E)
    exact (s_cons (s_if (t_cmpR op_isR (r_var rfl (.inl (by kernel_rfl))) r_non (nomark _)) (s_one (s_ret (r_cmpR op_isR (r_var rfl (.inl (by kernel_rfl))) r_non (nomark _)))) s_nil)
    (s_cons (s_if (t_cmpR op_isR (r_var rfl (.inl (by kernel_rfl))) r_bl (nomark _)) (s_one (s_ret (r_cmpR op_isR (r_var rfl (.inl (by kernel_rfl))) r_bl (nomark _)))) s_nil)
    (s_cons (s_if (t_cmpR op_isR (r_var rfl (.inl (by kernel_rfl))) r_bl (nomark _)) (s_one (s_ret (r_cmpR op_isR (r_var rfl (.inl (by kernel_rfl))) r_bl (nomark _)))) s_nil)
    (s_cons (s_if (t_val (r_isaLT (gl_of (by kernel_rfl)) G.n_isinstance (gl_of (by kernel_rfl)) G.n_list (gl_of (by kernel_rfl)) G.n_tuple (r_var rfl (.inl (by kernel_rfl))))) (s_cons (s_set (by decide) nd__law_same rfl (.inl (by kernel_rfl)) (r_ifx (t_val (r_isa (T := "list") (by decide) (gl_of (by kernel_rfl)) G.n_isinstance (gl_of (by kernel_rfl)) G.n_list (by rfl) (by decide) (by decide) (r_var rfl (.inl (by kernel_rfl))))) (r_isa (T := "list") (by decide) (gl_of (by kernel_rfl)) G.n_isinstance (gl_of (by kernel_rfl)) G.n_list (by rfl) (by decide) (by decide) (r_var rfl (.inl (by kernel_rfl)))) (r_isa (T := "tuple") (by decide) (gl_of (by kernel_rfl)) G.n_isinstance (gl_of (by kernel_rfl)) G.n_tuple (by rfl) (by decide) (by decide) (r_var rfl (.inl (by kernel_rfl))))))
    (s_one (s_ret (r_and (r_var rfl (.inl (by kernel_rfl))) (r_and (r_cmpR (op_eqR g) (r_bR cr_len (gl_of (by kernel_rfl)) G.n_len (by rfl) (a_cons (r_var rfl (.inl (by kernel_rfl))) a_nil)) (r_bR cr_len (gl_of (by kernel_rfl)) G.n_len (by rfl) (a_cons (r_var rfl (.inl (by kernel_rfl))) a_nil)) (nomark _)) (r_one (r_bC (cr_allC g.hc) (gl_of (by kernel_rfl)) G.n_all (by rfl) (a_cons (r_lc (own := [("one", 3), ("other", 4)]) (T := _) g nd__law_same (i_zip (gl_of (by kernel_rfl)) G.n_zip (r_var rfl (.inl (by kernel_rfl))) (r_var rfl (.inl (by kernel_rfl)))) (blkOk_by (by kernel_rfl)) (fun _ _ _ _ _ => (pg_tup g.blk.hc (pgs_cons (pg_name nd__law_same rfl (.inl (by kernel_rfl))) (pgs_cons (pg_name nd__law_same rfl (.inl (by kernel_rfl))) pgs_nil)))) (fun _ _ _ _ _ => ts_0) (fun _ _ _ _ _ => (r_f hs hr hk g.blk tells0 (gl_of (by kernel_rfl)) rfl bp__law_same (d_cons (r_var rfl (.inl (by kernel_rfl))) (d_cons (r_var rfl (.inl (by kernel_rfl))) d_nil)))) (tgT_ok (tgCons_ok tgN_ok (tgCons_ok tgN_ok tgNil_ok))) rfl (by decide)) a_nil)))))))) s_nil)
    (s_cons (s_if (t_val (r_isa (T := "int") (by decide) (gl_of (by kernel_rfl)) G.n_isinstance (gl_of (by kernel_rfl)) G.n_int (by rfl) (by decide) (by decide) (r_var rfl (.inl (by kernel_rfl))))) (s_one (s_ret (r_and (r_isa (T := "int") (by decide) (gl_of (by kernel_rfl)) G.n_isinstance (gl_of (by kernel_rfl)) G.n_int (by rfl) (by decide) (by decide) (r_var rfl (.inl (by kernel_rfl)))) (r_and (r_not (r_isa (T := "bool") (by decide) (gl_of (by kernel_rfl)) G.n_isinstance (gl_of (by kernel_rfl)) G.n_bool (by rfl) (by decide) (by decide) (r_var rfl (.inl (by kernel_rfl))))) (r_one (r_cmpR (op_eqR g) (r_var rfl (.inl (by kernel_rfl))) (r_var rfl (.inl (by kernel_rfl))) (nomark _))))))) s_nil)
    (s_one (s_ret (r_and (r_isa (T := "str") (by decide) (gl_of (by kernel_rfl)) G.n_isinstance (gl_of (by kernel_rfl)) G.n_str (by rfl) (by decide) (by decide) (r_var rfl (.inl (by kernel_rfl)))) (r_one (r_cmpR (op_eqR g) (r_var rfl (.inl (by kernel_rfl))) (r_var rfl (.inl (by kernel_rfl))) (nomark _)))))))))))
theorem c__law_draw (G : Gs K mg)  : CalG P w K mg base C8.CX0 1 "_law_draw" st__law_draw ["purse", "many"] (spG K ca 2 f__law_draw) := by
  obtain ⟨f, fd, F⟩ := G.d__law_draw
  refine calG_G (k := 0) (N := N__law_draw) (b := b__law_draw) F sc__law_draw rfl fun cdv A outer s H E hr g => ?_
  have pas := pas_of (CX := C8.CX0) (P := P) (w := w) (K := K) (mg := mg) (base := base) (N := N__law_draw) (x := "_law_draw") (scope := C8.fnScope st__law_draw) (f := f) (cdv := cdv) (A := A) (outer := outer) (s := s) (H := H) (E := E)
  exact (s_cons (s_if (t_w (w_and (t_cmpC op_ltC (r_ix (r_own rfl (.inl (by kernel_rfl))) r_int) (r_var rfl (.inl (by kernel_rfl))) (nomark _)) (w_and1 (t_cmpC op_ltC (r_ix (r_own rfl (.inl (by kernel_rfl))) r_int) (r_bR cr_len (gl_of (by kernel_rfl)) G.n_len (by rfl) (a_cons (r_ix (r_own rfl (.inl (by kernel_rfl))) r_int) a_nil)) (nomark _))))) (s_cons (s_setI rfl (.inl (by kernel_rfl)) r_int (r_ix (r_ix (r_own rfl (.inl (by kernel_rfl))) r_int) (r_ix (r_own rfl (.inl (by kernel_rfl))) r_int)))
    (s_one (s_augSA rfl (.inl (by kernel_rfl)) r_int r_int))) s_nil)
    (s_cons (s_if (t_cmpC op_geC (r_ix (r_own rfl (.inl (by kernel_rfl))) r_int) (r_var rfl (.inl (by kernel_rfl))) (nomark _)) (s_cons (s_set (by decide) nd__law_draw rfl (.inl (by kernel_rfl)) (r_op op_modC (r_tC cr_int (gl_of (by kernel_rfl)) G.n_int (by rfl) (a_cons (r_ix (r_own rfl (.inl (by kernel_rfl))) r_int) a_nil)) (r_var rfl (.inl (by kernel_rfl)))))
    (s_cons (s_setI rfl (.inl (by kernel_rfl)) r_int (r_op op_divC (r_ix (r_own rfl (.inl (by kernel_rfl))) r_int) (r_var rfl (.inl (by kernel_rfl)))))
    (s_one (s_ret (r_var rfl (.inl (by kernel_rfl))))))) s_nil)
    (s_cons (s_augSA rfl (.inl (by kernel_rfl)) r_int r_int)
    (s_cons (s_set (by decide) nd__law_draw rfl (.inl (by kernel_rfl)) (r_op op_modC (r_tC cr_int (gl_of (by kernel_rfl)) G.n_int (by rfl) (a_cons (r_op op_mulC (r_op op_addC (r_op op_mulC (r_ix (r_own rfl (.inl (by kernel_rfl))) r_int) (r_ix (r_own rfl (.inl (by kernel_rfl))) r_int)) (r_ix (r_own rfl (.inl (by kernel_rfl))) r_int)) r_int) a_nil)) r_int))
    (s_one (s_ret (r_op op_modC (r_tC cr_int (gl_of (by kernel_rfl)) G.n_int (by rfl) (a_cons (r_op op_modC (r_tC cr_int (gl_of (by kernel_rfl)) G.n_int (by rfl) (a_cons (r_op op_mulC (r_var rfl (.inl (by kernel_rfl))) (r_var rfl (.inl (by kernel_rfl)))) a_nil)) r_int) a_nil)) (r_var rfl (.inl (by kernel_rfl))))))))))
theorem c__law_divisor (G : Gs K mg)  : CalG P w K mg base C8.CX0 1 "_law_divisor" st__law_divisor ["one", "other"] (spP K ca 2 f__law_divisor) := by
  obtain ⟨f, fd, F⟩ := G.d__law_divisor
  refine calG_P (k := 0) (N := N__law_divisor) (b := b__law_divisor) F sc__law_divisor rfl fun cdv A outer s H E hr g => ?_
  have pas := pas_of (CX := C8.CX0) (P := P) (w := w) (K := K) (mg := mg) (base := base) (N := N__law_divisor) (x := "_law_divisor") (scope := C8.fnScope st__law_divisor) (f := f) (cdv := cdv) (A := A) (outer := outer) (s := s) (H := H) (E := E)
  exact (s_cons (s_while pas (t_cmpC op_gtC (r_var rfl (.inl (by kernel_rfl))) r_int (nomark _))
    (s_one (s_par (by decide) (by decide) g nd__law_divisor rfl rfl (by decide) rfl rfl (d_cons (r_var rfl (.inl (by kernel_rfl))) (d_cons (r_op op_modC (r_tC cr_int (gl_of (by kernel_rfl)) G.n_int (by rfl) (a_cons (r_var rfl (.inl (by kernel_rfl))) a_nil)) (r_var rfl (.inl (by kernel_rfl)))) d_nil)))))
    (s_one (s_ret (r_var rfl (.inl (by kernel_rfl))))))
theorem c__law_lowest (G : Gs K mg) (h__law_divisor : CalG P w K mg base C8.CX0 1 "_law_divisor" st__law_divisor ["one", "other"] (spP K ca 2 (f__law_divisor))) : CalG P w K mg base C8.CX0 2 "_law_lowest" st__law_lowest ["top", "under"] (spP K ca 2 f__law_lowest) := by
  obtain ⟨f, fd, F⟩ := G.d__law_lowest
  refine calG_P (k := 1) (N := N__law_lowest) (b := b__law_lowest) F sc__law_lowest rfl fun cdv A outer s H E hr g => ?_
  have pas := pas_of (CX := C8.CX0) (P := P) (w := w) (K := K) (mg := mg) (base := base) (N := N__law_lowest) (x := "_law_lowest") (scope := C8.fnScope st__law_lowest) (f := f) (cdv := cdv) (A := A) (outer := outer) (s := s) (H := H) (E := E)
  exact (s_cons (s_set (by decide) nd__law_lowest rfl (.inl (by kernel_rfl)) (r_f h__law_divisor hr (by decide) g tells0 (gl_of (by kernel_rfl)) rfl bp__law_divisor (d_cons (r_var rfl (.inl (by kernel_rfl))) (d_cons (r_var rfl (.inl (by kernel_rfl))) d_nil))))
    (s_one (s_ret (r_tup (d_cons (r_op op_divC (r_var rfl (.inl (by kernel_rfl))) (r_var rfl (.inl (by kernel_rfl)))) (d_cons (r_op op_divC (r_var rfl (.inl (by kernel_rfl))) (r_var rfl (.inl (by kernel_rfl)))) d_nil))))))
theorem c__law_line (G : Gs K mg)  : CalG P w K mg base C8.CX0 1 "_law_line" st__law_line ["slope", "start", "many"] (spP K ca 3 f__law_line) := by
  obtain ⟨f, fd, F⟩ := G.d__law_line
  refine calG_P (k := 0) (N := N__law_line) (b := b__law_line) F sc__law_line rfl fun cdv A outer s H E hr g => ?_
  have pas := pas_of (CX := C8.CX0) (P := P) (w := w) (K := K) (mg := mg) (base := base) (N := N__law_line) (x := "_law_line") (scope := C8.fnScope st__law_line) (f := f) (cdv := cdv) (A := A) (outer := outer) (s := s) (H := H) (E := E)
  exact (s_cons (s_set (by decide) nd__law_line rfl (.inr (by kernel_rfl)) (r_op op_mulC (r_ix (r_var rfl (.inr (.inl (by kernel_rfl)))) r_int) (r_ix (r_var rfl (.inr (.inl (by kernel_rfl)))) r_int)))
    (s_cons (s_set (by decide) nd__law_line rfl (.inr (by kernel_rfl)) (r_lc (own := [("place", 5)]) (T := _) g nd__law_line (i_rng1 (gl_of (by kernel_rfl)) G.n_range (r_op op_addC (r_var rfl (.inl (by kernel_rfl))) r_int)) (blkOk_by (by kernel_rfl)) (fun _ _ _ _ _ => (pg_name nd__law_line rfl (.inl (by kernel_rfl)))) (fun _ _ _ _ _ => ts_0) (fun _ _ _ _ _ => (r_op op_divC (r_op op_addC (r_op op_mulC (r_op op_mulC (r_var rfl (.inl (by kernel_rfl))) (r_ix (r_var rfl (.inr (.inl (by kernel_rfl)))) r_int)) (r_ix (r_var rfl (.inr (.inl (by kernel_rfl)))) r_int)) (r_op op_mulC (r_ix (r_var rfl (.inr (.inl (by kernel_rfl)))) r_int) (r_ix (r_var rfl (.inr (.inl (by kernel_rfl)))) r_int))) (r_var rfl (.inr (.inl (by kernel_rfl)))))) tgN_ok rfl (by decide)))
    (s_one (s_ret (r_join (r_str (by decide +kernel)) (a_cons (r_lc (own := [("at", 6)]) (T := _) g nd__law_line (i_rng1 (gl_of (by kernel_rfl)) G.n_range (r_var rfl (.inl (by kernel_rfl)))) (blkOk_by (by kernel_rfl)) (fun _ _ _ _ _ => (pg_name nd__law_line rfl (.inl (by kernel_rfl)))) (fun _ _ _ _ _ => ts_0) (fun _ _ _ _ _ => (r_ix (r_lst (d_cons (r_str (by decide +kernel)) (d_cons (r_str (by decide +kernel)) d_nil))) (r_op op_subC (r_ix (r_var rfl (.inr (.inl (by kernel_rfl)))) (r_op op_addC (r_var rfl (.inl (by kernel_rfl))) r_int)) (r_ix (r_var rfl (.inr (.inl (by kernel_rfl)))) (r_var rfl (.inl (by kernel_rfl))))))) tgN_ok rfl (by decide)) a_nil))))))
theorem c__law_drawn_line (G : Gs K mg) (h__law_lowest : CalG P w K mg base C8.CX0 2 "_law_lowest" st__law_lowest ["top", "under"] (spP K ca 2 (f__law_lowest))) (h__law_draw : CalG P w K mg base C8.CX0 1 "_law_draw" st__law_draw ["purse", "many"] (spG K ca 2 (f__law_draw))) (h__law_line : CalG P w K mg base C8.CX0 1 "_law_line" st__law_line ["slope", "start", "many"] (spP K ca 3 (f__law_line))) : CalG P w K mg base C8.CX0 3 "_law_drawn_line" st__law_drawn_line ["purse", "many"] (spG K ca 2 f__law_drawn_line) := by
  obtain ⟨f, fd, F⟩ := G.d__law_drawn_line
  refine calG_G (k := 2) (N := N__law_drawn_line) (b := b__law_drawn_line) F sc__law_drawn_line rfl fun cdv A outer s H E hr g => ?_
  have pas := pas_of (CX := C8.CX0) (P := P) (w := w) (K := K) (mg := mg) (base := base) (N := N__law_drawn_line) (x := "_law_drawn_line") (scope := C8.fnScope st__law_drawn_line) (f := f) (cdv := cdv) (A := A) (outer := outer) (s := s) (H := H) (E := E)
  exact (s_cons (s_set (by decide) nd__law_drawn_line rfl (.inl (by kernel_rfl)) (r_op op_addC r_int (r_fg h__law_draw hr (by decide) g tells0 (gl_of (by kernel_rfl)) rfl bp__law_draw rfl (.inl (by kernel_rfl)) (d_cons r_int d_nil))))
    (s_cons (s_set (by decide) nd__law_drawn_line rfl (.inl (by kernel_rfl)) (r_f h__law_lowest hr (by decide) g tells0 (gl_of (by kernel_rfl)) rfl bp__law_lowest (d_cons (r_fg h__law_draw hr (by decide) g tells0 (gl_of (by kernel_rfl)) rfl bp__law_draw rfl (.inl (by kernel_rfl)) (d_cons (r_op op_addC (r_var rfl (.inl (by kernel_rfl))) r_int) d_nil)) (d_cons (r_var rfl (.inl (by kernel_rfl))) d_nil))))
    (s_cons (s_set (by decide) nd__law_drawn_line rfl (.inl (by kernel_rfl)) (r_op op_addC r_int (r_fg h__law_draw hr (by decide) g tells0 (gl_of (by kernel_rfl)) rfl bp__law_draw rfl (.inl (by kernel_rfl)) (d_cons r_int d_nil))))
    (s_cons (s_set (by decide) nd__law_drawn_line rfl (.inl (by kernel_rfl)) (r_f h__law_lowest hr (by decide) g tells0 (gl_of (by kernel_rfl)) rfl bp__law_lowest (d_cons (r_fg h__law_draw hr (by decide) g tells0 (gl_of (by kernel_rfl)) rfl bp__law_draw rfl (.inl (by kernel_rfl)) (d_cons (r_var rfl (.inl (by kernel_rfl))) d_nil)) (d_cons (r_var rfl (.inl (by kernel_rfl))) d_nil))))
    (s_one (s_ret (r_tup (d_cons (r_var rfl (.inl (by kernel_rfl))) (d_cons (r_var rfl (.inl (by kernel_rfl))) (d_cons (r_f h__law_line hr (by decide) g tells0 (gl_of (by kernel_rfl)) rfl bp__law_line (d_cons (r_var rfl (.inl (by kernel_rfl))) (d_cons (r_var rfl (.inl (by kernel_rfl))) (d_cons (r_var rfl (.inl (by kernel_rfl))) d_nil)))) d_nil))))))))))
theorem c__law_least (G : Gs K mg) (h__law_line : CalG P w K mg base C8.CX0 1 "_law_line" st__law_line ["slope", "start", "many"] (spP K ca 3 (f__law_line))) (h__law_lowest : CalG P w K mg base C8.CX0 2 "_law_lowest" st__law_lowest ["top", "under"] (spP K ca 2 (f__law_lowest))) : CalG P w K mg base C8.CX0 3 "_law_least" st__law_least ["rests", "hits"] (spP K ca 2 f__law_least) := by
  obtain ⟨f, fd, F⟩ := G.d__law_least
  refine calG_P (k := 2) (N := N__law_least) (b := b__law_least) F sc__law_least rfl fun cdv A outer s H E hr g => ?_
  have pas := pas_of (CX := C8.CX0) (P := P) (w := w) (K := K) (mg := mg) (base := base) (N := N__law_least) (x := "_law_least") (scope := C8.fnScope st__law_least) (f := f) (cdv := cdv) (A := A) (outer := outer) (s := s) (H := H) (E := E)
  exact (s_one (s_ret (r_ifx (t_cmpC op_gtC (r_op op_addC (r_var rfl (.inl (by kernel_rfl))) (r_var rfl (.inl (by kernel_rfl)))) r_int (nomark _)) (r_f h__law_line hr (by decide) g tells0 (gl_of (by kernel_rfl)) rfl bp__law_line (d_cons (r_f h__law_lowest hr (by decide) g tells0 (gl_of (by kernel_rfl)) rfl bp__law_lowest (d_cons (r_var rfl (.inl (by kernel_rfl))) (d_cons (r_op op_addC (r_var rfl (.inl (by kernel_rfl))) (r_var rfl (.inl (by kernel_rfl)))) d_nil))) (d_cons (r_tup (d_cons r_int (d_cons r_int d_nil))) (d_cons (r_op op_addC (r_var rfl (.inl (by kernel_rfl))) (r_var rfl (.inl (by kernel_rfl)))) d_nil)))) (r_str (by decide +kernel)))))
theorem c_is_whole (G : Gs K mg)  : CalG P w K mg base C8.CX0 1 "is_whole" st_is_whole ["value"] (spP K ca 1 f_is_whole) := by
  obtain ⟨f, fd, F⟩ := G.d_is_whole
  refine calG_P (k := 0) (N := N_is_whole) (b := b_is_whole) F sc_is_whole rfl fun cdv A outer s H E hr g => ?_
  have pas := pas_of (CX := C8.CX0) (P := P) (w := w) (K := K) (mg := mg) (base := base) (N := N_is_whole) (x := "is_whole") (scope := C8.fnScope st_is_whole) (f := f) (cdv := cdv) (A := A) (outer := outer) (s := s) (H := H) (E := E)
  exact (s_one (s_ret (r_and (r_isa (T := "int") (by decide) (gl_of (by kernel_rfl)) G.n_isinstance (gl_of (by kernel_rfl)) G.n_int (by rfl) (by decide) (by decide) (r_var rfl (.inl (by kernel_rfl)))) (r_one (r_not (r_isa (T := "bool") (by decide) (gl_of (by kernel_rfl)) G.n_isinstance (gl_of (by kernel_rfl)) G.n_bool (by rfl) (by decide) (by decide) (r_var rfl (.inl (by kernel_rfl)))))))))
theorem c_is_count (G : Gs K mg) (h_is_whole : CalG P w K mg base C8.CX0 1 "is_whole" st_is_whole ["value"] (spP K ca 1 (f_is_whole))) : CalG P w K mg base C8.CX0 2 "is_count" st_is_count ["value"] (spP K ca 1 f_is_count) := by
  obtain ⟨f, fd, F⟩ := G.d_is_count
  refine calG_P (k := 1) (N := N_is_count) (b := b_is_count) F sc_is_count rfl fun cdv A outer s H E hr g => ?_
  have pas := pas_of (CX := C8.CX0) (P := P) (w := w) (K := K) (mg := mg) (base := base) (N := N_is_count) (x := "is_count") (scope := C8.fnScope st_is_count) (f := f) (cdv := cdv) (A := A) (outer := outer) (s := s) (H := H) (E := E)
  exact (s_one (s_ret (r_and (r_f h_is_whole hr (by decide) g tells0 (gl_of (by kernel_rfl)) rfl bp_is_whole (d_cons (r_var rfl (.inl (by kernel_rfl))) d_nil)) (r_one (r_cmpC op_geC (r_var rfl (.inl (by kernel_rfl))) r_int (nomark _))))))
theorem c_check_size (G : Gs K mg) (h_is_count : CalG P w K mg base C8.CX0 2 "is_count" st_is_count ["value"] (spP K ca 1 (f_is_count))) : CalG P w K mg base C8.CX0 3 "check_size" st_check_size ["many", "most"] (spP K ca 2 f_check_size) := by
  obtain ⟨f, fd, F⟩ := G.d_check_size
  refine calG_P (k := 2) (N := N_check_size) (b := b_check_size) F sc_check_size rfl fun cdv A outer s H E hr g => ?_
  have pas := pas_of (CX := C8.CX0) (P := P) (w := w) (K := K) (mg := mg) (base := base) (N := N_check_size) (x := "check_size") (scope := C8.fnScope st_check_size) (f := f) (cdv := cdv) (A := A) (outer := outer) (s := s) (H := H) (E := E)
  exact (s_one (s_if (t_w (w_or (t_not (t_val (r_f h_is_count hr (by decide) g tells0 (gl_of (by kernel_rfl)) rfl bp_is_count (d_cons (r_var rfl (.inl (by kernel_rfl))) d_nil)))) (w_or1 (t_cmpC op_gtC (r_var rfl (.inl (by kernel_rfl))) (r_var rfl (.inl (by kernel_rfl))) (nomark _))))) (s_one s_bad) s_nil))
theorem c_height_at (G : Gs K mg)  : CalG P w K mg base C8.CX0 1 "height_at" st_height_at ["slope", "start", "place"] (spP K ca 3 f_height_at) := by
  obtain ⟨f, fd, F⟩ := G.d_height_at
  refine calG_P (k := 0) (N := N_height_at) (b := b_height_at) F sc_height_at rfl fun cdv A outer s H E hr g => ?_
  have pas := pas_of (CX := C8.CX0) (P := P) (w := w) (K := K) (mg := mg) (base := base) (N := N_height_at) (x := "height_at") (scope := C8.fnScope st_height_at) (f := f) (cdv := cdv) (A := A) (outer := outer) (s := s) (H := H) (E := E)
  exact (s_one (s_ret (r_op op_divC (r_op op_addC (r_op op_mulC (r_op op_mulC (r_var rfl (.inl (by kernel_rfl))) (r_ix (r_var rfl (.inl (by kernel_rfl))) r_int)) (r_ix (r_var rfl (.inl (by kernel_rfl))) r_int)) (r_op op_mulC (r_ix (r_var rfl (.inl (by kernel_rfl))) r_int) (r_ix (r_var rfl (.inl (by kernel_rfl))) r_int))) (r_op op_mulC (r_ix (r_var rfl (.inl (by kernel_rfl))) r_int) (r_ix (r_var rfl (.inl (by kernel_rfl))) r_int)))))
theorem c_line_by (G : Gs K mg) (h_height_at : CalG P w K mg base C8.CX0 1 "height_at" st_height_at ["slope", "start", "place"] (spP K ca 3 (f_height_at))) : CalG P w K mg base C8.CX0 2 "line_by" st_line_by ["slope", "start", "many"] (spP K ca 3 f_line_by) := by
  obtain ⟨f, fd, F⟩ := G.d_line_by
  refine calG_P (k := 1) (N := N_line_by) (b := b_line_by) F sc_line_by rfl fun cdv A outer s H E hr g => ?_
  have pas := pas_of (CX := C8.CX0) (P := P) (w := w) (K := K) (mg := mg) (base := base) (N := N_line_by) (x := "line_by") (scope := C8.fnScope st_line_by) (f := f) (cdv := cdv) (A := A) (outer := outer) (s := s) (H := H) (E := E)
  exact (s_cons (s_set (by decide) nd_line_by rfl (.inr (by kernel_rfl)) (r_lc (own := [("place", 4)]) (T := _) g nd_line_by (i_rng1 (gl_of (by kernel_rfl)) G.n_range (r_op op_addC (r_var rfl (.inl (by kernel_rfl))) r_int)) (blkOk_by (by kernel_rfl)) (fun _ _ _ _ _ => (pg_name nd_line_by rfl (.inl (by kernel_rfl)))) (fun _ _ _ _ _ => ts_0) (fun _ _ _ _ _ => (r_f h_height_at hr (by decide) g.blk tells0 (gl_of (by kernel_rfl)) rfl bp_height_at (d_cons (r_var rfl (.inr (.inl (by kernel_rfl)))) (d_cons (r_var rfl (.inr (.inl (by kernel_rfl)))) (d_cons (r_var rfl (.inl (by kernel_rfl))) d_nil))))) tgN_ok rfl (by decide)))
    (s_one (s_ret (r_join (r_str (by decide +kernel)) (a_cons (r_lc (own := [("at", 5)]) (T := _) g nd_line_by (i_rng1 (gl_of (by kernel_rfl)) G.n_range (r_var rfl (.inl (by kernel_rfl)))) (blkOk_by (by kernel_rfl)) (fun _ _ _ _ _ => (pg_name nd_line_by rfl (.inl (by kernel_rfl)))) (fun _ _ _ _ _ => ts_0) (fun _ _ _ _ _ => (r_ifx (t_cmpC op_gtC (r_ix (r_var rfl (.inr (.inl (by kernel_rfl)))) (r_op op_addC (r_var rfl (.inl (by kernel_rfl))) r_int)) (r_ix (r_var rfl (.inr (.inl (by kernel_rfl)))) (r_var rfl (.inl (by kernel_rfl)))) (nomark _)) (r_str (by decide +kernel)) (r_str (by decide +kernel)))) tgN_ok rfl (by decide)) a_nil)))))
theorem c_divisor_of (G : Gs K mg)  : CalG P w K mg base C8.CX0 1 "divisor_of" st_divisor_of ["one", "other"] (spP K ca 2 f_divisor_of) := by
  obtain ⟨f, fd, F⟩ := G.d_divisor_of
  refine calG_P (k := 0) (N := N_divisor_of) (b := b_divisor_of) F sc_divisor_of rfl fun cdv A outer s H E hr g => ?_
  have pas := pas_of (CX := C8.CX0) (P := P) (w := w) (K := K) (mg := mg) (base := base) (N := N_divisor_of) (x := "divisor_of") (scope := C8.fnScope st_divisor_of) (f := f) (cdv := cdv) (A := A) (outer := outer) (s := s) (H := H) (E := E)
  exact (s_cons (s_while pas (t_cmpC op_gtC (r_var rfl (.inl (by kernel_rfl))) r_int (nomark _))
    (s_one (s_par (by decide) (by decide) g nd_divisor_of rfl rfl (by decide) rfl rfl (d_cons (r_var rfl (.inl (by kernel_rfl))) (d_cons (r_op op_modC (r_var rfl (.inl (by kernel_rfl))) (r_var rfl (.inl (by kernel_rfl)))) d_nil)))))
    (s_one (s_ret (r_var rfl (.inl (by kernel_rfl))))))
theorem c_lowest (G : Gs K mg) (h_divisor_of : CalG P w K mg base C8.CX0 1 "divisor_of" st_divisor_of ["one", "other"] (spP K ca 2 (f_divisor_of))) : CalG P w K mg base C8.CX0 2 "lowest" st_lowest ["top", "under"] (spP K ca 2 f_lowest) := by
  obtain ⟨f, fd, F⟩ := G.d_lowest
  refine calG_P (k := 1) (N := N_lowest) (b := b_lowest) F sc_lowest rfl fun cdv A outer s H E hr g => ?_
  have pas := pas_of (CX := C8.CX0) (P := P) (w := w) (K := K) (mg := mg) (base := base) (N := N_lowest) (x := "lowest") (scope := C8.fnScope st_lowest) (f := f) (cdv := cdv) (A := A) (outer := outer) (s := s) (H := H) (E := E)
  exact (s_cons (s_set (by decide) nd_lowest rfl (.inl (by kernel_rfl)) (r_f h_divisor_of hr (by decide) g tells0 (gl_of (by kernel_rfl)) rfl bp_divisor_of (d_cons (r_bC cr_abs (gl_of (by kernel_rfl)) G.n_abs (by rfl) (a_cons (r_var rfl (.inl (by kernel_rfl))) a_nil)) (d_cons (r_var rfl (.inl (by kernel_rfl))) d_nil))))
    (s_one (s_ret (r_tup (d_cons (r_op op_divC (r_var rfl (.inl (by kernel_rfl))) (r_var rfl (.inl (by kernel_rfl)))) (d_cons (r_op op_divC (r_var rfl (.inl (by kernel_rfl))) (r_var rfl (.inl (by kernel_rfl)))) d_nil))))))
theorem c_least_by (G : Gs K mg) (h_line_by : CalG P w K mg base C8.CX0 2 "line_by" st_line_by ["slope", "start", "many"] (spP K ca 3 (f_line_by))) (h_lowest : CalG P w K mg base C8.CX0 2 "lowest" st_lowest ["top", "under"] (spP K ca 2 (f_lowest))) : CalG P w K mg base C8.CX0 3 "least_by" st_least_by ["rests", "hits"] (spP K ca 2 f_least_by) := by
  obtain ⟨f, fd, F⟩ := G.d_least_by
  refine calG_P (k := 2) (N := N_least_by) (b := b_least_by) F sc_least_by rfl fun cdv A outer s H E hr g => ?_
  have pas := pas_of (CX := C8.CX0) (P := P) (w := w) (K := K) (mg := mg) (base := base) (N := N_least_by) (x := "least_by") (scope := C8.fnScope st_least_by) (f := f) (cdv := cdv) (A := A) (outer := outer) (s := s) (H := H) (E := E)
  exact (s_cons (s_if (t_cmpR (op_eqR g) (r_op op_addC (r_var rfl (.inl (by kernel_rfl))) (r_var rfl (.inl (by kernel_rfl)))) r_int (nomark _)) (s_one (s_ret (r_str (by decide +kernel)))) s_nil)
    (s_one (s_ret (r_f h_line_by hr (by decide) g tells0 (gl_of (by kernel_rfl)) rfl bp_line_by (d_cons (r_f h_lowest hr (by decide) g tells0 (gl_of (by kernel_rfl)) rfl bp_lowest (d_cons (r_var rfl (.inl (by kernel_rfl))) (d_cons (r_op op_addC (r_var rfl (.inl (by kernel_rfl))) (r_var rfl (.inl (by kernel_rfl)))) d_nil))) (d_cons (r_tup (d_cons r_int (d_cons r_int d_nil))) (d_cons (r_op op_addC (r_var rfl (.inl (by kernel_rfl))) (r_var rfl (.inl (by kernel_rfl)))) d_nil)))))))
theorem c_least_line (G : Gs K mg) (h_check_size : CalG P w K mg base C8.CX0 3 "check_size" st_check_size ["many", "most"] (spP K ca 2 (f_check_size))) (h_least_by : CalG P w K mg base C8.CX0 3 "least_by" st_least_by ["rests", "hits"] (spP K ca 2 (f_least_by))) : CalG P w K mg base C8.CX0 4 "least_line" st_least_line ["rests", "hits"] (spP K ca 2 f_least_line) := by
  obtain ⟨t_MOST_WORD, h_MOST_WORD⟩ := G.k_MOST_WORD
  obtain ⟨f, fd, F⟩ := G.d_least_line
  refine calG_P (k := 3) (N := N_least_line) (b := b_least_line) F sc_least_line rfl fun cdv A outer s H E hr g => ?_
  have pas := pas_of (CX := C8.CX0) (P := P) (w := w) (K := K) (mg := mg) (base := base) (N := N_least_line) (x := "least_line") (scope := C8.fnScope st_least_line) (f := f) (cdv := cdv) (A := A) (outer := outer) (s := s) (H := H) (E := E)
  exact (s_cons (s_expr (r_f h_check_size hr (by decide) g tells0 (gl_of (by kernel_rfl)) rfl bp_check_size (d_cons (r_var rfl (.inl (by kernel_rfl))) (d_cons (r_gint (t := t_MOST_WORD) (gl_of (by kernel_rfl)) h_MOST_WORD) d_nil))))
    (s_cons (s_expr (r_f h_check_size hr (by decide) g tells0 (gl_of (by kernel_rfl)) rfl bp_check_size (d_cons (r_var rfl (.inl (by kernel_rfl))) (d_cons (r_gint (t := t_MOST_WORD) (gl_of (by kernel_rfl)) h_MOST_WORD) d_nil))))
    (s_cons (s_if (t_cmpC op_gtC (r_op op_addC (r_var rfl (.inl (by kernel_rfl))) (r_var rfl (.inl (by kernel_rfl)))) (r_gint (t := t_MOST_WORD) (gl_of (by kernel_rfl)) h_MOST_WORD) (nomark _)) (s_one s_bad) s_nil)
    (s_one (s_ret (r_f h_least_by hr (by decide) g tells0 (gl_of (by kernel_rfl)) rfl bp_least_by (d_cons (r_var rfl (.inl (by kernel_rfl))) (d_cons (r_var rfl (.inl (by kernel_rfl))) d_nil))))))))
theorem c_is_part_by (G : Gs K mg) (h_divisor_of : CalG P w K mg base C8.CX0 1 "divisor_of" st_divisor_of ["one", "other"] (spP K ca 2 (f_divisor_of))) (h_is_whole : CalG P w K mg base C8.CX0 1 "is_whole" st_is_whole ["value"] (spP K ca 1 (f_is_whole))) : CalG P w K mg base C8.CX0 2 "is_part_by" st_is_part_by ["value"] (spP K ca 1 f_is_part_by) := by
  obtain ⟨f, fd, F⟩ := G.d_is_part_by
  refine calG_P (k := 1) (N := N_is_part_by) (b := b_is_part_by) F sc_is_part_by rfl fun cdv A outer s H E hr g => ?_
  have pas := pas_of (CX := C8.CX0) (P := P) (w := w) (K := K) (mg := mg) (base := base) (N := N_is_part_by) (x := "is_part_by") (scope := C8.fnScope st_is_part_by) (f := f) (cdv := cdv) (A := A) (outer := outer) (s := s) (H := H) (E := E)
  exact (s_cons (s_if (t_w (w_or (t_not (t_val (r_isa (T := "tuple") (by decide) (gl_of (by kernel_rfl)) G.n_isinstance (gl_of (by kernel_rfl)) G.n_tuple (by rfl) (by decide) (by decide) (r_var rfl (.inl (by kernel_rfl)))))) (w_or (t_cmpR (op_neR g) (r_bR cr_len (gl_of (by kernel_rfl)) G.n_len (by rfl) (a_cons (r_var rfl (.inl (by kernel_rfl))) a_nil)) r_int (nomark _)) (w_or1 (t_not (t_val (r_bC (cr_allC g.hc) (gl_of (by kernel_rfl)) G.n_all (by rfl) (a_cons (r_lc (own := [("one", 1)]) (T := _) g nd_is_part_by (i_tup (r_var rfl (.inl (by kernel_rfl)))) (blkOk_by (by kernel_rfl)) (fun _ _ _ _ _ => (pg_name nd_is_part_by rfl (.inl (by kernel_rfl)))) (fun _ _ _ _ _ => ts_0) (fun _ _ _ _ _ => (r_f h_is_whole hr (by decide) g.blk tells0 (gl_of (by kernel_rfl)) rfl bp_is_whole (d_cons (r_var rfl (.inl (by kernel_rfl))) d_nil))) tgN_ok rfl (by decide)) a_nil)))))))) (s_one (s_ret r_bl)) s_nil)
    (s_one (s_ret (r_and (r_chn op_leC op_leC r_int (r_ix (r_var rfl (.inl (by kernel_rfl))) r_int) (r_ix (r_var rfl (.inl (by kernel_rfl))) r_int)) (r_and (r_cmpC op_gtC (r_ix (r_var rfl (.inl (by kernel_rfl))) r_int) r_int (nomark _)) (r_one (r_cmpR (op_eqR g) (r_f h_divisor_of hr (by decide) g tells0 (gl_of (by kernel_rfl)) rfl bp_divisor_of (d_cons (r_ix (r_var rfl (.inl (by kernel_rfl))) r_int) (d_cons (r_ix (r_var rfl (.inl (by kernel_rfl))) r_int) d_nil))) r_int (nomark _))))))))
theorem c_is_start_by (G : Gs K mg) (h_is_part_by : CalG P w K mg base C8.CX0 2 "is_part_by" st_is_part_by ["value"] (spP K ca 1 (f_is_part_by))) : CalG P w K mg base C8.CX0 3 "is_start_by" st_is_start_by ["value"] (spP K ca 1 f_is_start_by) := by
  obtain ⟨f, fd, F⟩ := G.d_is_start_by
  refine calG_P (k := 2) (N := N_is_start_by) (b := b_is_start_by) F sc_is_start_by rfl fun cdv A outer s H E hr g => ?_
  have pas := pas_of (CX := C8.CX0) (P := P) (w := w) (K := K) (mg := mg) (base := base) (N := N_is_start_by) (x := "is_start_by") (scope := C8.fnScope st_is_start_by) (f := f) (cdv := cdv) (A := A) (outer := outer) (s := s) (H := H) (E := E)
  exact (s_one (s_ret (r_and (r_f h_is_part_by hr (by decide) g tells0 (gl_of (by kernel_rfl)) rfl bp_is_part_by (d_cons (r_var rfl (.inl (by kernel_rfl))) d_nil)) (r_one (r_cmpC op_ltC (r_ix (r_var rfl (.inl (by kernel_rfl))) r_int) (r_ix (r_var rfl (.inl (by kernel_rfl))) r_int) (nomark _))))))
theorem c_line_word (G : Gs K mg) (h_check_size : CalG P w K mg base C8.CX0 3 "check_size" st_check_size ["many", "most"] (spP K ca 2 (f_check_size))) (h_line_by : CalG P w K mg base C8.CX0 2 "line_by" st_line_by ["slope", "start", "many"] (spP K ca 3 (f_line_by))) (h_is_part_by : CalG P w K mg base C8.CX0 2 "is_part_by" st_is_part_by ["value"] (spP K ca 1 (f_is_part_by))) (h_is_start_by : CalG P w K mg base C8.CX0 3 "is_start_by" st_is_start_by ["value"] (spP K ca 1 (f_is_start_by))) : CalG P w K mg base C8.CX0 4 "line_word" st_line_word ["slope", "start", "many"] (spP K ca 3 f_line_word) := by
  obtain ⟨t_MOST_WORD, h_MOST_WORD⟩ := G.k_MOST_WORD
  obtain ⟨f, fd, F⟩ := G.d_line_word
  refine calG_P (k := 3) (N := N_line_word) (b := b_line_word) F sc_line_word rfl fun cdv A outer s H E hr g => ?_
  have pas := pas_of (CX := C8.CX0) (P := P) (w := w) (K := K) (mg := mg) (base := base) (N := N_line_word) (x := "line_word") (scope := C8.fnScope st_line_word) (f := f) (cdv := cdv) (A := A) (outer := outer) (s := s) (H := H) (E := E)
  exact (s_cons (s_if (t_not (t_val (r_f h_is_part_by hr (by decide) g tells0 (gl_of (by kernel_rfl)) rfl bp_is_part_by (d_cons (r_var rfl (.inl (by kernel_rfl))) d_nil)))) (s_one s_bad) s_nil)
    (s_cons (s_if (t_not (t_val (r_f h_is_start_by hr (by decide) g tells0 (gl_of (by kernel_rfl)) rfl bp_is_start_by (d_cons (r_var rfl (.inl (by kernel_rfl))) d_nil)))) (s_one s_bad) s_nil)
    (s_cons (s_expr (r_f h_check_size hr (by decide) g tells0 (gl_of (by kernel_rfl)) rfl bp_check_size (d_cons (r_var rfl (.inl (by kernel_rfl))) (d_cons (r_gint (t := t_MOST_WORD) (gl_of (by kernel_rfl)) h_MOST_WORD) d_nil))))
    (s_one (s_ret (r_f h_line_by hr (by decide) g tells0 (gl_of (by kernel_rfl)) rfl bp_line_by (d_cons (r_var rfl (.inl (by kernel_rfl))) (d_cons (r_var rfl (.inl (by kernel_rfl))) (d_cons (r_var rfl (.inl (by kernel_rfl))) d_nil)))))))))
theorem c__law_pick (G : Gs K mg) (h__law_draw : CalG P w K mg base C8.CX0 1 "_law_draw" st__law_draw ["purse", "many"] (spG K ca 2 (f__law_draw))) : CalG P w K mg base C8.CX0 2 "_law_pick" st__law_pick ["purse", "things"] (spG K ca 2 f__law_pick) := by
  obtain ⟨f, fd, F⟩ := G.d__law_pick
  refine calG_G (k := 1) (N := N__law_pick) (b := b__law_pick) F sc__law_pick rfl fun cdv A outer s H E hr g => ?_
  have pas := pas_of (CX := C8.CX0) (P := P) (w := w) (K := K) (mg := mg) (base := base) (N := N__law_pick) (x := "_law_pick") (scope := C8.fnScope st__law_pick) (f := f) (cdv := cdv) (A := A) (outer := outer) (s := s) (H := H) (E := E)
  exact (s_one (s_ret (r_ix (r_var rfl (.inl (by kernel_rfl))) (r_fg h__law_draw hr (by decide) g tells0 (gl_of (by kernel_rfl)) rfl bp__law_draw rfl (.inl (by kernel_rfl)) (d_cons (r_bR cr_len (gl_of (by kernel_rfl)) G.n_len (by rfl) (a_cons (r_var rfl (.inl (by kernel_rfl))) a_nil)) d_nil)))))
theorem c__law_words (G : Gs K mg)  : CalG P w K mg base C8.CX0 1 "_law_words" st__law_words ["size"] (spP K ca 1 f__law_words) := by
  obtain ⟨f, fd, F⟩ := G.d__law_words
  refine calG_P (k := 0) (N := N__law_words) (b := b__law_words) F sc__law_words rfl fun cdv A outer s H E hr g => ?_
  have pas := pas_of (CX := C8.CX0) (P := P) (w := w) (K := K) (mg := mg) (base := base) (N := N__law_words) (x := "_law_words") (scope := C8.fnScope st__law_words) (f := f) (cdv := cdv) (A := A) (outer := outer) (s := s) (H := H) (E := E)
  exact (s_cons (s_set (by decide) nd__law_words rfl (.inl (by kernel_rfl)) (r_lst (d_cons (r_str (by decide +kernel)) d_nil)))
    (s_cons (s_for tgN_ok (by decide) pas g (i_rng1 (gl_of (by kernel_rfl)) G.n_range (r_var rfl (.inl (by kernel_rfl)))) (pg_name nd__law_words rfl (.inl (by kernel_rfl)))
    (s_cons (s_set (by decide) nd__law_words rfl (.inl (by kernel_rfl)) (r_lst d_nil))
    (s_cons (s_for tgN_ok (by decide) pas g (i_list (r_var rfl (.inl (by kernel_rfl)))) (pg_name nd__law_words rfl (.inl (by kernel_rfl)))
    (s_one (s_set (by decide) nd__law_words rfl (.inl (by kernel_rfl)) (r_op op_addC (r_var rfl (.inl (by kernel_rfl))) (r_lst (d_cons (r_op op_addC (r_var rfl (.inl (by kernel_rfl))) (r_str (by decide +kernel))) (d_cons (r_op op_addC (r_var rfl (.inl (by kernel_rfl))) (r_str (by decide +kernel))) d_nil)))))))
    (s_one (s_set (by decide) nd__law_words rfl (.inl (by kernel_rfl)) (r_var rfl (.inl (by kernel_rfl))))))))
    (s_one (s_ret (r_var rfl (.inl (by kernel_rfl)))))))
theorem c__law_turned (G : Gs K mg)  : CalG P w K mg base C8.CX0 1 "_law_turned" st__law_turned ["word"] (spP K ca 1 f__law_turned) := by
  obtain ⟨f, fd, F⟩ := G.d__law_turned
  refine calG_P (k := 0) (N := N__law_turned) (b := b__law_turned) F sc__law_turned rfl fun cdv A outer s H E hr g => ?_
  have pas := pas_of (CX := C8.CX0) (P := P) (w := w) (K := K) (mg := mg) (base := base) (N := N__law_turned) (x := "_law_turned") (scope := C8.fnScope st__law_turned) (f := f) (cdv := cdv) (A := A) (outer := outer) (s := s) (H := H) (E := E)
  exact (s_one (s_ret (r_lc (own := [("at", 1)]) (T := _) g nd__law_turned (i_rng1 (gl_of (by kernel_rfl)) G.n_range (r_bR cr_len (gl_of (by kernel_rfl)) G.n_len (by rfl) (a_cons (r_var rfl (.inr (.inl (by kernel_rfl)))) a_nil))) (blkOk_by (by kernel_rfl)) (fun _ _ _ _ _ => (pg_name nd__law_turned rfl (.inl (by kernel_rfl)))) (fun _ _ _ _ _ => ts_0) (fun _ _ _ _ _ => (r_op op_addC (r_sl (r_var rfl (.inr (.inl (by kernel_rfl)))) (o_some (r_var rfl (.inl (by kernel_rfl)))) o_none) (r_sl (r_var rfl (.inr (.inl (by kernel_rfl)))) o_none (o_some (r_var rfl (.inl (by kernel_rfl))))))) tgN_ok rfl (by decide))))
theorem c__law_balanced (G : Gs K mg)  : CalG P w K mg base C8.CX0 1 "_law_balanced" st__law_balanced ["word"] (spP K ca 1 f__law_balanced) := by
  obtain ⟨f, fd, F⟩ := G.d__law_balanced
  refine calG_P (k := 0) (N := N__law_balanced) (b := b__law_balanced) F sc__law_balanced rfl fun cdv A outer s H E hr g => ?_
  have pas := pas_of (CX := C8.CX0) (P := P) (w := w) (K := K) (mg := mg) (base := base) (N := N__law_balanced) (x := "_law_balanced") (scope := C8.fnScope st__law_balanced) (f := f) (cdv := cdv) (A := A) (outer := outer) (s := s) (H := H) (E := E)
  exact (s_cons (s_for tgN_ok (by decide) pas g (i_rng2 (gl_of (by kernel_rfl)) G.n_range r_int (r_bR cr_len (gl_of (by kernel_rfl)) G.n_len (by rfl) (a_cons (r_var rfl (.inr (.inl (by kernel_rfl)))) a_nil))) (pg_name nd__law_balanced rfl (.inr (by kernel_rfl)))
    (s_cons (s_setLc (own := [("at", 3)]) (by decide) g nd__law_balanced rfl (by kernel_rfl) (sw_true (by kernel_rfl) (by kernel_rfl) (by kernel_rfl) (by kernel_rfl)) (i_rng1 (gl_of (by kernel_rfl)) G.n_range (r_op op_addC (r_op op_subC (r_bR cr_len (gl_of (by kernel_rfl)) G.n_len (by rfl) (a_cons (r_var rfl (.inr (.inl (by kernel_rfl)))) a_nil)) (r_var rfl (.inr (.inl (by kernel_rfl))))) r_int)) (blkOk_by (by kernel_rfl)) (fun _ _ _ _ _ => (pg_name nd__law_balanced rfl (.inl (by kernel_rfl)))) (fun _ _ _ _ _ => ts_0) (fun _ _ _ _ _ => (r_count (r_sl (r_var rfl (.inr (.inl (by kernel_rfl)))) (o_some (r_var rfl (.inl (by kernel_rfl)))) (o_some (r_op op_addC (r_var rfl (.inl (by kernel_rfl))) (r_var rfl (.inr (.inl (by kernel_rfl))))))) (a_cons (r_str (by decide +kernel)) a_nil))) tgN_ok rfl (by decide))
    (s_one (s_if (t_cmpC op_gtC (r_op op_subC (r_bC (cr_maxAll g) (gl_of (by kernel_rfl)) G.n_max (by rfl) (a_cons (r_var rfl (.inl (by kernel_rfl))) a_nil)) (r_bC (cr_minAll g) (gl_of (by kernel_rfl)) G.n_min (by rfl) (a_cons (r_var rfl (.inl (by kernel_rfl))) a_nil))) r_int (nomark _)) (s_one (s_ret r_bl)) s_nil))))
    (s_one (s_ret r_bl)))
theorem c_law (G : Gs K mg) (h__law_purse : CalG P w K mg base C8.CX0 1 "_law_purse" st__law_purse ["script"] (spP K ca 1 (f__law_purse))) (h__law_same : CalG P w K mg base C8.CX0 6 "_law_same" st__law_same ["told", "due"] (spP K ca 2 (f__law_same 6))) (h__law_draw : CalG P w K mg base C8.CX0 1 "_law_draw" st__law_draw ["purse", "many"] (spG K ca 2 (f__law_draw))) (h__law_drawn_line : CalG P w K mg base C8.CX0 3 "_law_drawn_line" st__law_drawn_line ["purse", "many"] (spG K ca 2 (f__law_drawn_line))) (h__law_least : CalG P w K mg base C8.CX0 3 "_law_least" st__law_least ["rests", "hits"] (spP K ca 2 (f__law_least))) (h__law_line : CalG P w K mg base C8.CX0 1 "_law_line" st__law_line ["slope", "start", "many"] (spP K ca 3 (f__law_line))) (h_least_line : CalG P w K mg base C8.CX0 4 "least_line" st_least_line ["rests", "hits"] (spP K ca 2 (f_least_line))) (h_line_word : CalG P w K mg base C8.CX0 4 "line_word" st_line_word ["slope", "start", "many"] (spP K ca 3 (f_line_word))) (h__law_pick : CalG P w K mg base C8.CX0 2 "_law_pick" st__law_pick ["purse", "things"] (spG K ca 2 (f__law_pick))) (h__law_words : CalG P w K mg base C8.CX0 1 "_law_words" st__law_words ["size"] (spP K ca 1 (f__law_words))) (h__law_turned : CalG P w K mg base C8.CX0 1 "_law_turned" st__law_turned ["word"] (spP K ca 1 (f__law_turned))) (h__law_balanced : CalG P w K mg base C8.CX0 1 "_law_balanced" st__law_balanced ["word"] (spP K ca 1 (f__law_balanced))) : CalG P w K mg base C8.CX0 7 "law" st_law ["script"] (spP K ca 1 f_law) := by
  obtain ⟨f, fd, F⟩ := G.d_law
  refine calG_P (k := 6) (N := N_law) (b := b_law) F sc_law rfl fun cdv A outer s H E hr g => ?_
  have pas := pas_of (CX := C8.CX0) (P := P) (w := w) (K := K) (mg := mg) (base := base) (N := N_law) (x := "law") (scope := C8.fnScope st_law) (f := f) (cdv := cdv) (A := A) (outer := outer) (s := s) (H := H) (E := E)
  exact (s_cons (s_setO (by decide) nd_law rfl (.inl (by kernel_rfl)) (r_f h__law_purse hr (by decide) g tells0 (gl_of (by kernel_rfl)) rfl bp__law_purse (d_cons (r_var rfl (.inl (by kernel_rfl))) d_nil)))
    (s_cons (s_for tgN_ok (by decide) pas g (i_rng1 (gl_of (by kernel_rfl)) G.n_range r_int) (pg_name nd_law rfl (.inl (by kernel_rfl)))
    (s_cons (s_set (by decide) nd_law rfl (.inl (by kernel_rfl)) (r_fg h__law_draw hr (by decide) g tells0 (gl_of (by kernel_rfl)) rfl bp__law_draw rfl (.inl (by kernel_rfl)) (d_cons r_int d_nil)))
    (s_cons (s_asgT (tgT_ok (tgCons_ok tgN_ok (tgCons_ok tgN_ok (tgCons_ok tgN_ok tgNil_ok)))) (by decide) (r_fg h__law_drawn_line hr (by decide) g tells0 (gl_of (by kernel_rfl)) rfl bp__law_drawn_line rfl (.inl (by kernel_rfl)) (d_cons (r_var rfl (.inl (by kernel_rfl))) d_nil)) (pg_tup g.hc (pgs_cons (pg_name nd_law rfl (.inl (by kernel_rfl))) (pgs_cons (pg_name nd_law rfl (.inl (by kernel_rfl))) (pgs_cons (pg_name nd_law rfl (.inl (by kernel_rfl))) pgs_nil)))))
    (s_cons (s_if (t_cmpR (op_eqR g) (r_var rfl (.inl (by kernel_rfl))) r_int (nomark _)) (s_cons (s_par (by decide) (by decide) g nd_law rfl rfl (by decide) rfl rfl (d_cons (r_fg h__law_pick hr (by decide) g tells0 (gl_of (by kernel_rfl)) rfl bp__law_pick rfl (.inl (by kernel_rfl)) (d_cons (r_lst (d_cons (r_tup (d_cons r_int (d_cons r_int d_nil))) (d_cons (r_tup (d_cons r_int (d_cons r_int d_nil))) (d_cons (r_tup (d_cons r_int (d_cons r_int d_nil))) d_nil)))) d_nil)) (d_cons (r_fg h__law_pick hr (by decide) g tells0 (gl_of (by kernel_rfl)) rfl bp__law_pick rfl (.inl (by kernel_rfl)) (d_cons (r_lst (d_cons (r_tup (d_cons r_int (d_cons r_int d_nil))) (d_cons (r_tup (d_cons r_int (d_cons r_int d_nil))) d_nil))) d_nil)) d_nil)))
    (s_one (s_set (by decide) nd_law rfl (.inl (by kernel_rfl)) (r_f h__law_line hr (by decide) g tells0 (gl_of (by kernel_rfl)) rfl bp__law_line (d_cons (r_var rfl (.inl (by kernel_rfl))) (d_cons (r_var rfl (.inl (by kernel_rfl))) (d_cons (r_var rfl (.inl (by kernel_rfl))) d_nil))))))) s_nil)
    (s_cons (s_if (t_not (t_val (r_f h__law_same hr (by decide) g tells0 (gl_of (by kernel_rfl)) rfl bp__law_same (d_cons (r_lst (d_cons (r_f h_line_word hr (by decide) g tells0 (gl_of (by kernel_rfl)) rfl bp_line_word (d_cons (r_var rfl (.inl (by kernel_rfl))) (d_cons (r_var rfl (.inl (by kernel_rfl))) (d_cons (r_var rfl (.inl (by kernel_rfl))) d_nil)))) (d_cons (r_fk0 (perm := [2, 1, 0]) (ks := ["many", "start", "slope"]) h_line_word hr (by decide) g tells0 (gl_of (by kernel_rfl)) (fun _ _ _ _ _ _ us ws h1 h2 => match us, ws, h1, h2 with | [], [_, _, _], _, _ => rfl) rfl (k_cons (r_var rfl (.inl (by kernel_rfl))) (k_cons (r_var rfl (.inl (by kernel_rfl))) (k_cons (r_var rfl (.inl (by kernel_rfl))) k_nil)))) d_nil))) (d_cons (r_lst (d_cons (r_var rfl (.inl (by kernel_rfl))) (d_cons (r_var rfl (.inl (by kernel_rfl))) d_nil))) d_nil))))) (s_one (s_ret r_bl)) s_nil)
    (s_cons (s_asgT (tgT_ok (tgCons_ok tgN_ok (tgCons_ok tgN_ok tgNil_ok))) (by decide) (r_tup (d_cons (r_fg h__law_draw hr (by decide) g tells0 (gl_of (by kernel_rfl)) rfl bp__law_draw rfl (.inl (by kernel_rfl)) (d_cons r_int d_nil)) (d_cons (r_fg h__law_draw hr (by decide) g tells0 (gl_of (by kernel_rfl)) rfl bp__law_draw rfl (.inl (by kernel_rfl)) (d_cons r_int d_nil)) d_nil))) (pg_tup g.hc (pgs_cons (pg_name nd_law rfl (.inl (by kernel_rfl))) (pgs_cons (pg_name nd_law rfl (.inr (by kernel_rfl))) pgs_nil))))
    (s_cons (s_set (by decide) nd_law rfl (.inl (by kernel_rfl)) (r_f h__law_least hr (by decide) g tells0 (gl_of (by kernel_rfl)) rfl bp__law_least (d_cons (r_var rfl (.inl (by kernel_rfl))) (d_cons (r_var rfl (.inr (.inl (by kernel_rfl)))) d_nil))))
    (s_cons (s_if (t_w (w_or (t_not (t_val (r_f h__law_same hr (by decide) g tells0 (gl_of (by kernel_rfl)) rfl bp__law_same (d_cons (r_lst (d_cons (r_f h_least_line hr (by decide) g tells0 (gl_of (by kernel_rfl)) rfl bp_least_line (d_cons (r_var rfl (.inl (by kernel_rfl))) (d_cons (r_var rfl (.inr (.inl (by kernel_rfl)))) d_nil))) (d_cons (r_fk0 (perm := [1, 0]) (ks := ["hits", "rests"]) h_least_line hr (by decide) g tells0 (gl_of (by kernel_rfl)) (fun _ _ _ _ _ _ us ws h1 h2 => match us, ws, h1, h2 with | [], [_, _], _, _ => rfl) rfl (k_cons (r_var rfl (.inr (.inl (by kernel_rfl)))) (k_cons (r_var rfl (.inl (by kernel_rfl))) k_nil))) d_nil))) (d_cons (r_lst (d_cons (r_var rfl (.inl (by kernel_rfl))) (d_cons (r_var rfl (.inl (by kernel_rfl))) d_nil))) d_nil))))) (w_or (t_cmpR (op_neR g) (r_count (r_var rfl (.inl (by kernel_rfl))) (a_cons (r_str (by decide +kernel)) a_nil)) (r_var rfl (.inr (.inl (by kernel_rfl)))) (nomark _)) (w_or1 (t_cmpR (op_neR g) (r_bR cr_len (gl_of (by kernel_rfl)) G.n_len (by rfl) (a_cons (r_var rfl (.inl (by kernel_rfl))) a_nil)) (r_op op_addC (r_var rfl (.inl (by kernel_rfl))) (r_var rfl (.inr (.inl (by kernel_rfl))))) (nomark _)))))) (s_one (s_ret r_bl)) s_nil)
    (s_one (s_if (t_w (w_and (t_cmpC op_ltC (r_op op_addC (r_var rfl (.inl (by kernel_rfl))) (r_var rfl (.inr (.inl (by kernel_rfl))))) r_int (nomark _)) (w_and1 (t_cmpC op_ltC (r_var rfl (.inl (by kernel_rfl))) r_int (nomark _))))) (s_cons (s_setLc (own := [("word", 11)]) (by decide) g nd_law rfl (by kernel_rfl) (sw_true (by kernel_rfl) (by kernel_rfl) (by kernel_rfl) (by kernel_rfl)) (i_list (r_f h__law_words hr (by decide) g tells0 (gl_of (by kernel_rfl)) rfl bp__law_words (d_cons (r_op op_addC (r_var rfl (.inl (by kernel_rfl))) (r_var rfl (.inr (.inl (by kernel_rfl))))) d_nil))) (blkOk_by (by kernel_rfl)) (fun _ _ _ _ _ => (pg_name nd_law rfl (.inl (by kernel_rfl)))) (fun _ _ _ _ _ => (ts_1 (t_w (w_and (t_cmpR (op_eqR g.blk) (r_count (r_var rfl (.inl (by kernel_rfl))) (a_cons (r_str (by decide +kernel)) a_nil)) (r_var rfl (.inr (.inl (by kernel_rfl)))) (nomark _)) (w_and1 (t_cmpR (op_eqR g.blk) (r_lc (own := [("one", 12)]) (T := _) g.blk nd_law (i_list (r_f h__law_turned hr (by decide) g.blk tells0 (gl_of (by kernel_rfl)) rfl bp__law_turned (d_cons (r_var rfl (.inl (by kernel_rfl))) d_nil))) (blkOk_by (by kernel_rfl)) (fun _ _ _ _ _ => (pg_name nd_law rfl (.inl (by kernel_rfl)))) (fun _ _ _ _ _ => (ts_1 (t_not (t_val (r_f h__law_balanced hr (by decide) g.blk.blk tells0 (gl_of (by kernel_rfl)) rfl bp__law_balanced (d_cons (r_var rfl (.inl (by kernel_rfl))) d_nil)))))) (fun _ _ _ _ _ => (r_var rfl (.inl (by kernel_rfl)))) tgN_ok rfl (by decide)) (r_lst d_nil) (nomark _))))))) (fun _ _ _ _ _ => (r_var rfl (.inl (by kernel_rfl)))) tgN_ok rfl (by decide))
    (s_one (s_if (t_cmpR (op_neR g) (r_bC (cr_minAll g) (gl_of (by kernel_rfl)) G.n_min (by rfl) (a_cons (r_var rfl (.inl (by kernel_rfl))) a_nil)) (r_var rfl (.inl (by kernel_rfl))) (nomark _)) (s_one (s_ret r_bl)) s_nil))) s_nil))))))))))
    (s_one (s_ret (r_f h__law_same hr (by decide) g tells0 (gl_of (by kernel_rfl)) rfl bp__law_same (d_cons (r_lst (d_cons (r_f h_least_line hr (by decide) g tells0 (gl_of (by kernel_rfl)) rfl bp_least_line (d_cons r_int (d_cons r_int d_nil))) (d_cons (r_f h_least_line hr (by decide) g tells0 (gl_of (by kernel_rfl)) rfl bp_least_line (d_cons r_int (d_cons r_int d_nil))) (d_cons (r_f h_least_line hr (by decide) g tells0 (gl_of (by kernel_rfl)) rfl bp_least_line (d_cons r_int (d_cons r_int d_nil))) (d_cons (r_f h_line_word hr (by decide) g tells0 (gl_of (by kernel_rfl)) rfl bp_line_word (d_cons (r_tup (d_cons r_int (d_cons r_int d_nil))) (d_cons (r_tup (d_cons r_int (d_cons r_int d_nil))) (d_cons r_int d_nil)))) d_nil))))) (d_cons (r_lst (d_cons (r_str (by decide +kernel)) (d_cons (r_op op_mulC (r_str (by decide +kernel)) r_int) (d_cons (r_op op_mulC (r_str (by decide +kernel)) r_int) (d_cons (r_str (by decide +kernel)) d_nil))))) d_nil)))))))
theorem c_all (G : Gs K mg) : CalG P w K mg base C8.CX0 7 "law" st_law ["script"] (spP K ca 1 f_law) := by
  have h__law_purse := c__law_purse (P := P) (w := w) (base := base) (ca := ca) G 
  have h__law_same := c__law_same (P := P) (w := w) (base := base) (ca := ca) G  6
  have h__law_draw := c__law_draw (P := P) (w := w) (base := base) (ca := ca) G 
  have h__law_divisor := c__law_divisor (P := P) (w := w) (base := base) (ca := ca) G 
  have h__law_lowest := c__law_lowest (P := P) (w := w) (base := base) (ca := ca) G h__law_divisor
  have h__law_line := c__law_line (P := P) (w := w) (base := base) (ca := ca) G 
  have h__law_drawn_line := c__law_drawn_line (P := P) (w := w) (base := base) (ca := ca) G h__law_lowest h__law_draw h__law_line
  have h__law_least := c__law_least (P := P) (w := w) (base := base) (ca := ca) G h__law_line h__law_lowest
  have h_is_whole := c_is_whole (P := P) (w := w) (base := base) (ca := ca) G 
  have h_is_count := c_is_count (P := P) (w := w) (base := base) (ca := ca) G h_is_whole
  have h_check_size := c_check_size (P := P) (w := w) (base := base) (ca := ca) G h_is_count
  have h_height_at := c_height_at (P := P) (w := w) (base := base) (ca := ca) G 
  have h_line_by := c_line_by (P := P) (w := w) (base := base) (ca := ca) G h_height_at
  have h_divisor_of := c_divisor_of (P := P) (w := w) (base := base) (ca := ca) G 
  have h_lowest := c_lowest (P := P) (w := w) (base := base) (ca := ca) G h_divisor_of
  have h_least_by := c_least_by (P := P) (w := w) (base := base) (ca := ca) G h_line_by h_lowest
  have h_least_line := c_least_line (P := P) (w := w) (base := base) (ca := ca) G h_check_size h_least_by
  have h_is_part_by := c_is_part_by (P := P) (w := w) (base := base) (ca := ca) G h_divisor_of h_is_whole
  have h_is_start_by := c_is_start_by (P := P) (w := w) (base := base) (ca := ca) G h_is_part_by
  have h_line_word := c_line_word (P := P) (w := w) (base := base) (ca := ca) G h_check_size h_line_by h_is_part_by h_is_start_by
  have h__law_pick := c__law_pick (P := P) (w := w) (base := base) (ca := ca) G h__law_draw
  have h__law_words := c__law_words (P := P) (w := w) (base := base) (ca := ca) G 
  have h__law_turned := c__law_turned (P := P) (w := w) (base := base) (ca := ca) G 
  have h__law_balanced := c__law_balanced (P := P) (w := w) (base := base) (ca := ca) G 
  exact c_law G h__law_purse h__law_same h__law_draw h__law_drawn_line h__law_least h__law_line h_least_line h_line_word h__law_pick h__law_words h__law_turned h__law_balanced
end

end K81

set_option Elab.async false
set_option linter.all false
set_option autoImplicit false
set_option maxRecDepth 100000
set_option maxHeartbeats 4000000
namespace K81
open PySem PySem.Spec PyProof.Rows L2 TL

/-- the purse: cells left, place, what is drawn of, how many stirred, seed -/
def PurseOk (n : Nat) (p : List D) : Prop := ∃ (cells : List Int) (i cur cnt seed : Int), p = [.lst (cells.map .int), .int i, .int cur, .int cnt, .int seed] ∧ (∀ c ∈ cells, 0 ≤ c) ∧ 0 ≤ i ∧ 0 ≤ cur ∧ 0 ≤ cnt ∧ cnt ≤ n ∧ 0 ≤ seed ∧ seed < 2147483647
theorem log_lt {z : Int} {k : Nat} (h0 : 0 ≤ z) (hk : 0 < k) (h : z < 2 ^ k) : z.natAbs.log2 < k := by
  by_cases hz : z = 0
  · subst hz; simpa using hk
  · have h1 : z.natAbs ≠ 0 := by omega
    rw [Nat.log2_lt h1]
    have : (z.natAbs : Int) < 2 ^ k := by omega
    exact_mod_cast this
theorem draw_ok {n : Nat} {p : List D} {many : Int} (h : PurseOk n p) (hn : n < 1000000) (h1 : 1 ≤ many) (h2 : many < 2 ^ 100) : ∃ t p', f__law_draw p [.int many] = .ret (.imm (.int t)) p' ∧ 0 ≤ t ∧ t < many ∧ PurseOk (n + 1) p' := by
  obtain ⟨cells, i, cur, cnt, seed, rfl, hc, hi, hcur, hcnt, hcn, hs, hs2⟩ := h
  have lm : many.natAbs.log2 < 9000 := Nat.lt_of_lt_of_le (log_lt (by omega) (by decide) h2) (by decide)
  have pm : 0 < many := by omega
  have l1 : ∀ z : Int, 0 ≤ z → z < 2 ^ 100 → z.natAbs.log2 < 100 := fun z a b => log_lt a (by decide) b
  have sq : cnt * cnt ≤ 1000000 * 1000000 := Int.mul_le_mul (by omega) (by omega) hcnt (by omega)
  -- the second part
  have part : ∀ (i cur : Int), 0 ≤ i → 0 ≤ cur → ∃ t p', FG.of ((sSeq (sIfS (tBool (sC2 gGe (sC2 gIx (sOwn 0) (sC (.int 2))) (sVar 1))) (sSeq (sAsg 2 (sC2 gMod (sCn (one gInt) (aCons (sC2 gIx (sOwn 0) (sC (.int 2))) (aNil))) (sVar 1))) (sSeq (sSet 0 (sC2 gDiv (sC2 gIx (sOwn 0) (sC (.int 2))) (sVar 1)) (sC (.int 2))) (sRet (sVar 2)))) (sSkip)) (sSeq (sAugS 0 (sC (.int 3)) (fun a b => a + b) (sC (.int 1))) (sSeq (sAsg 3 (sC2 gMod (sCn (one gInt) (aCons (sC2 gMul (sC2 gAdd (sC2 gMul (sC2 gIx (sOwn 0) (sC (.int 3))) (sC2 gIx (sOwn 0) (sC (.int 3)))) (sC2 gIx (sOwn 0) (sC (.int 4)))) (sC (.int 48271))) (aNil))) (sC (.int 2147483629)))) (sRet (sC2 gMod (sCn (one gInt) (aCons (sC2 gMod (sCn (one gInt) (aCons (sC2 gMul (sVar 3) (sVar 3)) (aNil))) (sC (.int 2147483587))) (aNil))) (sVar 1)))))) [.own [.lst (cells.map .int), .int i, .int cur, .int cnt, .int seed], .imm (.int many), .non, .non]) = .ret (.imm (.int t)) p' ∧ 0 ≤ t ∧ t < many ∧ PurseOk (n + 1) p' := by
    intro i cur hi hcur
    by_cases hm : many ≤ cur
    · exact ⟨cur % many, [.lst (cells.map .int), .int i, .int (cur / many), .int cnt, .int seed], by simp [runP, runG, FO.of, FG.of, clo, own0, sSeq, sSkip, sAsg, sAsgO, sFrz, sIfS, sRet, sRetN, sDrop, sSet, sAugS, sAug, sPar, sPar3, sAsgT, tgN, tgT, tgCons, tgNil, eB, sVar, sOwn, sC, sC1, sR1, sC2, sR2, aNil, aCons, sCn, sRn, sCm, isTy, tTru, truth, tAn, tOr', tNo, tBool, sIf, sAn, sOr, sNo, dNil, dCons, frz, sLst, sTup, oNone, oSome, sSl, sChn, sIsa, sIsaLT, isaT, isaTy, tyOf, sCallP, sCallK, sCallG, sCallF, sPop, sApp, pick, getc, getv, getcs, getvs, Sl.get, orV, one, two, sFor, sWhile, sIt, itemsL, itemsT, itemsS, bYes, gAdd, TL.gSub, gMul, gDiv, gMod, gPow, gNeg, gLt, gLe, gGt, gGe, gEq, gNe, gIx, gLen, gInt, gAbs, gSum, gIn, gNotIn, gIs, gIsNot, isNone, isBl, atI, ixN, hm, pm, lm], Int.emod_nonneg _ (by omega), Int.emod_lt_of_pos _ pm, cells, i, cur / many, cnt, seed, rfl, hc, hi, Int.ediv_nonneg hcur (by omega), hcnt, by omega, hs, hs2⟩
    · have c1 := l1 (cnt + 1) (by omega) (by omega)
      have sq1 : (cnt + 1) * (cnt + 1) = cnt * cnt + 2 * cnt + 1 := by rw [Int.add_mul, Int.mul_add]; omega
      have sq0 : 0 ≤ cnt * cnt := Int.mul_nonneg hcnt hcnt
      have c2 := l1 ((cnt + 1) * (cnt + 1) + seed) (by omega) (by omega)
      have g1 : (cnt + 1).natAbs.log2 + (cnt + 1).natAbs.log2 < 1000000 := by omega
      have g2 : ((cnt + 1) * (cnt + 1) + seed).natAbs.log2 + (48271 : Nat).log2 < 1000000 := by
        have : (48271 : Nat).log2 < 100 := by decide
        omega
      have z0 := Int.emod_nonneg (((cnt + 1) * (cnt + 1) + seed) * 48271) (show (2147483629 : Int) ≠ 0 by decide)
      have z1 := Int.emod_lt_of_pos (((cnt + 1) * (cnt + 1) + seed) * 48271) (show (0 : Int) < 2147483629 by decide)
      have c3 := l1 _ z0 (by omega)
      have g3 : (((cnt + 1) * (cnt + 1) + seed) * 48271 % 2147483629).natAbs.log2 + (((cnt + 1) * (cnt + 1) + seed) * 48271 % 2147483629).natAbs.log2 < 1000000 := by omega
      refine ⟨_, [.lst (cells.map .int), .int i, .int cur, .int (cnt + 1), .int seed], by simp [runP, runG, FO.of, FG.of, clo, own0, sSeq, sSkip, sAsg, sAsgO, sFrz, sIfS, sRet, sRetN, sDrop, sSet, sAugS, sAug, sPar, sPar3, sAsgT, tgN, tgT, tgCons, tgNil, eB, sVar, sOwn, sC, sC1, sR1, sC2, sR2, aNil, aCons, sCn, sRn, sCm, isTy, tTru, truth, tAn, tOr', tNo, tBool, sIf, sAn, sOr, sNo, dNil, dCons, frz, sLst, sTup, oNone, oSome, sSl, sChn, sIsa, sIsaLT, isaT, isaTy, tyOf, sCallP, sCallK, sCallG, sCallF, sPop, sApp, pick, getc, getv, getcs, getvs, Sl.get, orV, one, two, sFor, sWhile, sIt, itemsL, itemsT, itemsS, bYes, gAdd, TL.gSub, gMul, gDiv, gMod, gPow, gNeg, gLt, gLe, gGt, gGe, gEq, gNe, gIx, gLen, gInt, gAbs, gSum, gIn, gNotIn, gIs, gIsNot, isNone, isBl, atI, ixN, hm, pm, g1, g2, g3]; rfl, ?_⟩
      exact ⟨Int.emod_nonneg _ (by omega), Int.emod_lt_of_pos _ pm, cells, i, cur, cnt + 1, seed, rfl, hc, hi, hcur, by omega, by omega, hs, hs2⟩
  by_cases h3 : cur < many ∧ i < cells.length
  · have hlt : i.toNat < cells.length := by omega
    obtain ⟨t, p', e1, e2⟩ := part (i + 1) cells[i.toNat] (by omega) (hc _ (List.getElem_mem hlt))
    refine ⟨t, p', ?_, e2⟩
    rw [← e1]
    simp [f__law_draw, b__law_draw, runP, runG, FO.of, FG.of, clo, own0, sSeq, sSkip, sAsg, sAsgO, sFrz, sIfS, sRet, sRetN, sDrop, sSet, sAugS, sAug, sPar, sPar3, sAsgT, tgN, tgT, tgCons, tgNil, eB, sVar, sOwn, sC, sC1, sR1, sC2, sR2, aNil, aCons, sCn, sRn, sCm, isTy, tTru, truth, tAn, tOr', tNo, tBool, sIf, sAn, sOr, sNo, dNil, dCons, frz, sLst, sTup, oNone, oSome, sSl, sChn, sIsa, sIsaLT, isaT, isaTy, tyOf, sCallP, sCallK, sCallG, sCallF, sPop, sApp, pick, getc, getv, getcs, getvs, Sl.get, orV, one, two, sFor, sWhile, sIt, itemsL, itemsT, itemsS, bYes, gAdd, TL.gSub, gMul, gDiv, gMod, gPow, gNeg, gLt, gLe, gGt, gGe, gEq, gNe, gIx, gLen, gInt, gAbs, gSum, gIn, gNotIn, gIs, gIsNot, isNone, isBl, atI, ixN, h3.1, h3.2, hi, hlt]
  · obtain ⟨t, p', e1, e2⟩ := part i cur hi hcur
    refine ⟨t, p', ?_, e2⟩
    rw [← e1]
    by_cases h4 : cur < many
    · have h5 : ¬ i < cells.length := fun z => h3 ⟨h4, z⟩
      simp [f__law_draw, b__law_draw, runP, runG, FO.of, FG.of, clo, own0, sSeq, sSkip, sAsg, sAsgO, sFrz, sIfS, sRet, sRetN, sDrop, sSet, sAugS, sAug, sPar, sPar3, sAsgT, tgN, tgT, tgCons, tgNil, eB, sVar, sOwn, sC, sC1, sR1, sC2, sR2, aNil, aCons, sCn, sRn, sCm, isTy, tTru, truth, tAn, tOr', tNo, tBool, sIf, sAn, sOr, sNo, dNil, dCons, frz, sLst, sTup, oNone, oSome, sSl, sChn, sIsa, sIsaLT, isaT, isaTy, tyOf, sCallP, sCallK, sCallG, sCallF, sPop, sApp, pick, getc, getv, getcs, getvs, Sl.get, orV, one, two, sFor, sWhile, sIt, itemsL, itemsT, itemsS, bYes, gAdd, TL.gSub, gMul, gDiv, gMod, gPow, gNeg, gLt, gLe, gGt, gGe, gEq, gNe, gIx, gLen, gInt, gAbs, gSum, gIn, gNotIn, gIs, gIsNot, isNone, isBl, atI, ixN, h4, h5]
    · simp [f__law_draw, b__law_draw, runP, runG, FO.of, FG.of, clo, own0, sSeq, sSkip, sAsg, sAsgO, sFrz, sIfS, sRet, sRetN, sDrop, sSet, sAugS, sAug, sPar, sPar3, sAsgT, tgN, tgT, tgCons, tgNil, eB, sVar, sOwn, sC, sC1, sR1, sC2, sR2, aNil, aCons, sCn, sRn, sCm, isTy, tTru, truth, tAn, tOr', tNo, tBool, sIf, sAn, sOr, sNo, dNil, dCons, frz, sLst, sTup, oNone, oSome, sSl, sChn, sIsa, sIsaLT, isaT, isaTy, tyOf, sCallP, sCallK, sCallG, sCallF, sPop, sApp, pick, getc, getv, getcs, getvs, Sl.get, orV, one, two, sFor, sWhile, sIt, itemsL, itemsT, itemsS, bYes, gAdd, TL.gSub, gMul, gDiv, gMod, gPow, gNeg, gLt, gLe, gGt, gGe, gEq, gNe, gIx, gLen, gInt, gAbs, gSum, gIn, gNotIn, gIs, gIsNot, isNone, isBl, atI, ixN, h4]
end K81

set_option Elab.async false
set_option linter.all false
set_option autoImplicit false
set_option maxRecDepth 100000
set_option maxHeartbeats 4000000
namespace K81
open PySem PySem.Spec PyProof.Rows L2 TL

theorem cut_len {α : Type} (xs : List α) (lo hi : Option Int) : (cut xs lo hi).length ≤ xs.length := by
  unfold cut; rw [List.length_take, List.length_drop]; omega
theorem pow18 : gPow (.int 10) (.int 18) = .val (.int (10 ^ 18)) := by
  have h : (0 : Int) ≤ 18 ∧ ((Builtin.Int.intBits 10 : Nat) : Int) * 18 ≤ 2 ^ 27 := by decide +kernel
  simp only [gPow, h, and_self, if_true]
  rfl
theorem purse_ok (ns : List Int) (h : ns.length ≤ 63) : ∃ p, f__law_purse [.scr ns] = .ret (.cell p) ∧ PurseOk 0 p := by
  let cs := cut ns none (some 63)
  have hcs : cs.length ≤ 63 := Nat.le_trans (cut_len _ _ _) h
  have it : ∀ e : TL.Env, e[0]? = some (.imm (.scr ns)) → sIt itemsL (sSl (sVar 0) oNone (oSome (sC (.int 63)))) e = .ok (cs.map .int) e := fun e he => by
    simp [sIt, sSl, sVar, he, oNone, oSome, sC, getc, gSl, orV, frz, itemsL]
    rfl
  obtain ⟨e', h1, h2⟩ := loop_inv (t := tgN 2) (b := sAsg 1 (sC2 gMod (sCn (one gInt) (aCons (sC2 gAdd (sC2 gMul (sVar 1) (sC (.int 31))) (sVar 2)) (aNil))) (sC (.int 2147483647)))) (fun _ e => ∃ seed s, e = [.imm (.scr ns), .imm (.int seed), s] ∧ plSl s = true ∧ 0 ≤ seed ∧ seed < 2147483647) (cs.map .int) 0 [.imm (.scr ns), .imm (.int 7), .non] ⟨7, _, rfl, rfl, by decide, by decide⟩ (fun i d e hd hi => by
    obtain ⟨seed, s, rfl, _, a, b⟩ := hi
    rw [List.getElem?_map, Option.map_eq_some_iff] at hd
    obtain ⟨c, _, rfl⟩ := hd
    have lg : seed.natAbs.log2 < 100 := log_lt a (by decide) (by omega)
    have lg2 : seed.natAbs.log2 + (31 : Nat).log2 < 1000000 := by
      have : (31 : Nat).log2 < 100 := by decide
      omega
    exact ⟨_, rfl, [.imm (.scr ns), .imm (.int ((seed * 31 + c) % 2147483647)), .imm (.int c)], .inl (by simp [runP, runG, FO.of, FG.of, clo, own0, sSeq, sSkip, sAsg, sAsgO, sFrz, sIfS, sRet, sRetN, sDrop, sSet, sAugS, sAug, sPar, sPar3, sAsgT, tgN, tgT, tgCons, tgNil, eB, sVar, sOwn, sC, sC1, sR1, sC2, sR2, aNil, aCons, sCn, sRn, sCm, isTy, tTru, truth, tAn, tOr', tNo, tBool, sIf, sAn, sOr, sNo, dNil, dCons, frz, sLst, sTup, oNone, oSome, sSl, sChn, sIsa, sIsaLT, isaT, isaTy, tyOf, sCallP, sCallK, sCallG, sCallF, sPop, sApp, pick, getc, getv, getcs, getvs, Sl.get, orV, one, two, sFor, sWhile, sIt, itemsL, itemsT, itemsS, bYes, gAdd, TL.gSub, gMul, gDiv, gMod, gPow, gNeg, gLt, gLe, gGt, gGe, gEq, gNe, gIx, gLen, gInt, gAbs, gSum, gIn, gNotIn, gIs, gIsNot, isNone, isBl, atI, ixN, lg2]), _, _, rfl, rfl, Int.emod_nonneg _ (by decide), Int.emod_lt_of_pos _ (by decide)⟩)
  obtain ⟨seed, s, rfl, hs, a, b⟩ := h2
  have lc := sLc_filter (v := 2) (g := sIt itemsL (sSl (sVar 0) (oNone) (oSome (sC (.int 63))))) (c := tBool (sC2 gGe (sVar 2) (sC2 gPow (sC (.int 10)) (sC (.int 18))))) (f := sVar 2) (env := [.imm (.scr ns), .imm (.int seed), s]) (ds := cs.map .int)
    (fun d => match d with | .int c => decide (10 ^ 18 ≤ c) | _ => false) id (it _ rfl) (by simp) (plainAt_of rfl hs) (by rw [List.length_map, lim_def]; omega) (fun d hd => by
      obtain ⟨c, _, rfl⟩ := List.mem_map.mp hd
      exact ⟨by simp [tBool, sC2, sVar, sC, getc, pow18, orV, gGe], fun _ => ⟨.imm (.int c), by simp [sVar], by simp [frz]⟩⟩)
  have fm : ∀ l : List Int, ((l.map D.int).filter fun d => match d with | .int c => decide (10 ^ 18 ≤ c) | _ => false).map id = (l.filter fun c => decide ((10 : Int) ^ 18 ≤ c)).map D.int := fun l => by
    rw [List.map_id, List.filter_map]; rfl
  rw [fm] at lc
  refine ⟨[.lst ((cs.filter fun c => decide ((10 : Int) ^ 18 ≤ c)).map .int), .int 0, .int 0, .int 0, .int seed], ?_, _, 0, 0, 0, seed, rfl, fun c hc => ?_, by decide, by decide, by decide, by decide, a, b⟩
  · have e0 : f__law_purse [.scr ns] = FO.of (b__law_purse [.imm (.scr ns), .non, .non]) := rfl
    rw [e0]
    simp only [b__law_purse, sSeq, sAsg, sC, eB_ok, frz, List.set_cons_succ, List.set_cons_zero, sFor, it [.imm (.scr ns), .imm (.int 7), .non] rfl, h1]
    simp only [sRet, sLst, dCons, dNil, lc, Out.bind_ok, frz, sC, sVar, eB_ok, List.getElem?_cons_succ, List.getElem?_cons_zero]
    rfl
  · have := of_decide_eq_true (List.mem_filter.mp hc).2
    omega
end K81

set_option Elab.async false
set_option linter.all false
set_option autoImplicit false
set_option maxRecDepth 100000
set_option maxHeartbeats 4000000
namespace K81
open PySem PySem.Spec PyProof.Rows L2 TL

theorem ldiv_ok {x y : Int} (hx : 0 ≤ x) (hy : 0 ≤ y) : f__law_divisor [.int x, .int y] = .ret (.imm (.int (Int.gcd x y))) := by
  have h := while_gcd (c := tBool (sC2 gGt (sVar 1) (sC (.int 0)))) (b := sPar 0 1 (dCons (sVar 1) (dCons (sC2 gMod (sCn (one gInt) (aCons (sVar 0) (aNil))) (sVar 1)) (dNil)))) (E := fun x y => [.imm (.int x), .imm (.int y)])
    (fun x y => by simp [runP, runG, FO.of, FG.of, clo, own0, sSeq, sSkip, sAsg, sAsgO, sFrz, sIfS, sRet, sRetN, sDrop, sSet, sAugS, sAug, sPar, sPar3, sAsgT, tgN, tgT, tgCons, tgNil, eB, sVar, sOwn, sC, sC1, sR1, sC2, sR2, aNil, aCons, sCn, sRn, sCm, isTy, tTru, truth, tAn, tOr', tNo, tBool, sIf, sAn, sOr, sNo, dNil, dCons, frz, sLst, sTup, oNone, oSome, sSl, sChn, sIsa, sIsaLT, isaT, isaTy, tyOf, sCallP, sCallK, sCallG, sCallF, sPop, sApp, pick, getc, getv, getcs, getvs, Sl.get, orV, one, two, sFor, sWhile, sIt, itemsL, itemsT, itemsS, bYes, gAdd, TL.gSub, gMul, gDiv, gMod, gPow, gNeg, gLt, gLe, gGt, gGe, gEq, gNe, gIx, gLen, gInt, gAbs, gSum, gIn, gNotIn, gIs, gIsNot, isNone, isBl, atI, ixN]) (fun x y h => by simp [runP, runG, FO.of, FG.of, clo, own0, sSeq, sSkip, sAsg, sAsgO, sFrz, sIfS, sRet, sRetN, sDrop, sSet, sAugS, sAug, sPar, sPar3, sAsgT, tgN, tgT, tgCons, tgNil, eB, sVar, sOwn, sC, sC1, sR1, sC2, sR2, aNil, aCons, sCn, sRn, sCm, isTy, tTru, truth, tAn, tOr', tNo, tBool, sIf, sAn, sOr, sNo, dNil, dCons, frz, sLst, sTup, oNone, oSome, sSl, sChn, sIsa, sIsaLT, isaT, isaTy, tyOf, sCallP, sCallK, sCallG, sCallF, sPop, sApp, pick, getc, getv, getcs, getvs, Sl.get, orV, one, two, sFor, sWhile, sIt, itemsL, itemsT, itemsS, bYes, gAdd, TL.gSub, gMul, gDiv, gMod, gPow, gNeg, gLt, gLe, gGt, gGe, gEq, gNe, gIx, gLen, gInt, gAbs, gSum, gIn, gNotIn, gIs, gIsNot, isNone, isBl, atI, ixN, h]) (y.toNat + 1) x y hx hy (by omega)
  have e0 : f__law_divisor [.int x, .int y] = FO.of (b__law_divisor [.imm (.int x), .imm (.int y)]) := rfl
  rw [e0]
  simp only [b__law_divisor, sSeq, sWhile, fu__law_divisor, List.getElem?_cons_succ, List.getElem?_cons_zero, h]
  simp [runP, runG, FO.of, FG.of, clo, own0, sSeq, sSkip, sAsg, sAsgO, sFrz, sIfS, sRet, sRetN, sDrop, sSet, sAugS, sAug, sPar, sPar3, sAsgT, tgN, tgT, tgCons, tgNil, eB, sVar, sOwn, sC, sC1, sR1, sC2, sR2, aNil, aCons, sCn, sRn, sCm, isTy, tTru, truth, tAn, tOr', tNo, tBool, sIf, sAn, sOr, sNo, dNil, dCons, frz, sLst, sTup, oNone, oSome, sSl, sChn, sIsa, sIsaLT, isaT, isaTy, tyOf, sCallP, sCallK, sCallG, sCallF, sPop, sApp, pick, getc, getv, getcs, getvs, Sl.get, orV, one, two, sFor, sWhile, sIt, itemsL, itemsT, itemsS, bYes, gAdd, TL.gSub, gMul, gDiv, gMod, gPow, gNeg, gLt, gLe, gGt, gGe, gEq, gNe, gIx, gLen, gInt, gAbs, gSum, gIn, gNotIn, gIs, gIsNot, isNone, isBl, atI, ixN]
theorem pdiv_ok {x y : Int} (hx : 0 ≤ x) (hy : 0 ≤ y) : f_divisor_of [.int x, .int y] = .ret (.imm (.int (Int.gcd x y))) := by
  have h := while_gcd (c := tBool (sC2 gGt (sVar 1) (sC (.int 0)))) (b := sPar 0 1 (dCons (sVar 1) (dCons (sC2 gMod (sVar 0) (sVar 1)) (dNil)))) (E := fun x y => [.imm (.int x), .imm (.int y)])
    (fun x y => by simp [runP, runG, FO.of, FG.of, clo, own0, sSeq, sSkip, sAsg, sAsgO, sFrz, sIfS, sRet, sRetN, sDrop, sSet, sAugS, sAug, sPar, sPar3, sAsgT, tgN, tgT, tgCons, tgNil, eB, sVar, sOwn, sC, sC1, sR1, sC2, sR2, aNil, aCons, sCn, sRn, sCm, isTy, tTru, truth, tAn, tOr', tNo, tBool, sIf, sAn, sOr, sNo, dNil, dCons, frz, sLst, sTup, oNone, oSome, sSl, sChn, sIsa, sIsaLT, isaT, isaTy, tyOf, sCallP, sCallK, sCallG, sCallF, sPop, sApp, pick, getc, getv, getcs, getvs, Sl.get, orV, one, two, sFor, sWhile, sIt, itemsL, itemsT, itemsS, bYes, gAdd, TL.gSub, gMul, gDiv, gMod, gPow, gNeg, gLt, gLe, gGt, gGe, gEq, gNe, gIx, gLen, gInt, gAbs, gSum, gIn, gNotIn, gIs, gIsNot, isNone, isBl, atI, ixN]) (fun x y h => by simp [runP, runG, FO.of, FG.of, clo, own0, sSeq, sSkip, sAsg, sAsgO, sFrz, sIfS, sRet, sRetN, sDrop, sSet, sAugS, sAug, sPar, sPar3, sAsgT, tgN, tgT, tgCons, tgNil, eB, sVar, sOwn, sC, sC1, sR1, sC2, sR2, aNil, aCons, sCn, sRn, sCm, isTy, tTru, truth, tAn, tOr', tNo, tBool, sIf, sAn, sOr, sNo, dNil, dCons, frz, sLst, sTup, oNone, oSome, sSl, sChn, sIsa, sIsaLT, isaT, isaTy, tyOf, sCallP, sCallK, sCallG, sCallF, sPop, sApp, pick, getc, getv, getcs, getvs, Sl.get, orV, one, two, sFor, sWhile, sIt, itemsL, itemsT, itemsS, bYes, gAdd, TL.gSub, gMul, gDiv, gMod, gPow, gNeg, gLt, gLe, gGt, gGe, gEq, gNe, gIx, gLen, gInt, gAbs, gSum, gIn, gNotIn, gIs, gIsNot, isNone, isBl, atI, ixN, h]) (y.toNat + 1) x y hx hy (by omega)
  have e0 : f_divisor_of [.int x, .int y] = FO.of (b_divisor_of [.imm (.int x), .imm (.int y)]) := rfl
  rw [e0]
  simp only [b_divisor_of, sSeq, sWhile, fu_divisor_of, List.getElem?_cons_succ, List.getElem?_cons_zero, h]
  simp [runP, runG, FO.of, FG.of, clo, own0, sSeq, sSkip, sAsg, sAsgO, sFrz, sIfS, sRet, sRetN, sDrop, sSet, sAugS, sAug, sPar, sPar3, sAsgT, tgN, tgT, tgCons, tgNil, eB, sVar, sOwn, sC, sC1, sR1, sC2, sR2, aNil, aCons, sCn, sRn, sCm, isTy, tTru, truth, tAn, tOr', tNo, tBool, sIf, sAn, sOr, sNo, dNil, dCons, frz, sLst, sTup, oNone, oSome, sSl, sChn, sIsa, sIsaLT, isaT, isaTy, tyOf, sCallP, sCallK, sCallG, sCallF, sPop, sApp, pick, getc, getv, getcs, getvs, Sl.get, orV, one, two, sFor, sWhile, sIt, itemsL, itemsT, itemsS, bYes, gAdd, TL.gSub, gMul, gDiv, gMod, gPow, gNeg, gLt, gLe, gGt, gGe, gEq, gNe, gIx, gLen, gInt, gAbs, gSum, gIn, gNotIn, gIs, gIsNot, isNone, isBl, atI, ixN]
theorem gcd_bd {x y : Int} (hy : 0 < y) (h2 : y < 2 ^ 100) : (0 : Int) < Int.gcd x y ∧ ((Int.gcd x y : Nat) : Int) ≤ y ∧ ((Int.gcd x y : Nat) : Int).natAbs.log2 < 9000 := by
  have h1 : 0 < Int.gcd x y := Int.gcd_pos_of_ne_zero_right x (by omega)
  have h3 : ((Int.gcd x y : Nat) : Int) ≤ y := Int.le_of_dvd hy (Int.gcd_dvd_right x y)
  have h4 := log_lt (z := ((Int.gcd x y : Nat) : Int)) (k := 100) (by omega) (by decide) (by omega)
  exact ⟨by omega, h3, by omega⟩
theorem llow_ok {x y : Int} (hx : 0 ≤ x) (hy : 0 < y) (h2 : y < 2 ^ 100) : f__law_lowest [.int x, .int y] = .ret (.imm (.tup [.int (x / Int.gcd x y), .int (y / Int.gcd x y)])) := by
  obtain ⟨a, b, c⟩ := gcd_bd (x := x) hy h2
  have e := ldiv_ok hx (Int.le_of_lt hy)
  generalize ((Int.gcd x y : Nat) : Int) = g at *
  simp [f__law_lowest, b__law_lowest, runP, runG, FO.of, FG.of, clo, own0, sSeq, sSkip, sAsg, sAsgO, sFrz, sIfS, sRet, sRetN, sDrop, sSet, sAugS, sAug, sPar, sPar3, sAsgT, tgN, tgT, tgCons, tgNil, eB, sVar, sOwn, sC, sC1, sR1, sC2, sR2, aNil, aCons, sCn, sRn, sCm, isTy, tTru, truth, tAn, tOr', tNo, tBool, sIf, sAn, sOr, sNo, dNil, dCons, frz, sLst, sTup, oNone, oSome, sSl, sChn, sIsa, sIsaLT, isaT, isaTy, tyOf, sCallP, sCallK, sCallG, sCallF, sPop, sApp, pick, getc, getv, getcs, getvs, Sl.get, orV, one, two, sFor, sWhile, sIt, itemsL, itemsT, itemsS, bYes, gAdd, TL.gSub, gMul, gDiv, gMod, gPow, gNeg, gLt, gLe, gGt, gGe, gEq, gNe, gIx, gLen, gInt, gAbs, gSum, gIn, gNotIn, gIs, gIsNot, isNone, isBl, atI, ixN, e, a, c, lim_def]
theorem plow_ok {x y : Int} (hx : 0 ≤ x) (hy : 0 < y) (h2 : y < 2 ^ 100) : f_lowest [.int x, .int y] = .ret (.imm (.tup [.int (x / Int.gcd x y), .int (y / Int.gcd x y)])) := by
  obtain ⟨a, b, c⟩ := gcd_bd (x := x) hy h2
  have e := pdiv_ok hx (Int.le_of_lt hy)
  generalize ((Int.gcd x y : Nat) : Int) = g at *
  simp [f_lowest, b_lowest, runP, runG, FO.of, FG.of, clo, own0, sSeq, sSkip, sAsg, sAsgO, sFrz, sIfS, sRet, sRetN, sDrop, sSet, sAugS, sAug, sPar, sPar3, sAsgT, tgN, tgT, tgCons, tgNil, eB, sVar, sOwn, sC, sC1, sR1, sC2, sR2, aNil, aCons, sCn, sRn, sCm, isTy, tTru, truth, tAn, tOr', tNo, tBool, sIf, sAn, sOr, sNo, dNil, dCons, frz, sLst, sTup, oNone, oSome, sSl, sChn, sIsa, sIsaLT, isaT, isaTy, tyOf, sCallP, sCallK, sCallG, sCallF, sPop, sApp, pick, getc, getv, getcs, getvs, Sl.get, orV, one, two, sFor, sWhile, sIt, itemsL, itemsT, itemsS, bYes, gAdd, TL.gSub, gMul, gDiv, gMod, gPow, gNeg, gLt, gLe, gGt, gGe, gEq, gNe, gIx, gLen, gInt, gAbs, gSum, gIn, gNotIn, gIs, gIsNot, isNone, isBl, atI, ixN, e, a, c, lim_def, show ¬ x < 0 by omega]

/-- heights of a line -/
def ht (a b c d k : Int) : Int := (k * a * d + c * b) / (b * d)
theorem ht_step {a b c d k : Int} (h1 : 0 ≤ a) (h2 : a ≤ b) (hb : 0 < b) (hd : 0 < d) : ht a b c d (k + 1) - ht a b c d k = 0 ∨ ht a b c d (k + 1) - ht a b c d k = 1 := by
  unfold ht
  have e : (k + 1) * a * d + c * b = (k * a * d + c * b) + a * d := by rw [Int.add_mul, Int.add_mul, Int.one_mul]; omega
  have h3 : 0 ≤ a * d := Int.mul_nonneg h1 (by omega)
  have h4 : a * d ≤ b * d := Int.mul_le_mul_of_nonneg_right h2 (by omega)
  have h5 : 0 < b * d := Int.mul_pos hb hd
  rw [e]
  generalize k * a * d + c * b = m at *
  generalize a * d = p at *
  generalize b * d = q at *
  have u1 := Int.mul_ediv_add_emod m q
  have u2 := Int.mul_ediv_add_emod (m + p) q
  have v1 := Int.emod_nonneg m (show q ≠ 0 by omega)
  have v2 := Int.emod_lt_of_pos m h5
  have v3 := Int.emod_nonneg (m + p) (show q ≠ 0 by omega)
  have v4 := Int.emod_lt_of_pos (m + p) h5
  generalize m / q = s at *
  generalize (m + p) / q = t at *
  have w1 : q * (t - s) < 2 * q := by rw [Int.mul_sub]; omega
  have w2 : -q < q * (t - s) := by rw [Int.mul_sub]; omega
  have w3 : t - s < 2 := Int.lt_of_mul_lt_mul_left (a := q) (by rw [Int.mul_comm q 2]; exact w1) (by omega)
  have w4 : -1 < t - s := Int.lt_of_mul_lt_mul_left (a := q) (by rw [Int.mul_neg, Int.mul_one]; exact w2) (by omega)
  omega
/-- the word of a line -/
def lineW (a b c d : Int) (n : Nat) : List Nat := (List.range n).map fun k : Nat => if ht a b c d (k : Int) < ht a b c d ((k : Int) + 1) then 98 else 97
theorem small_mul {x y : Int} {m n : Nat} (hx : 0 ≤ x) (hy : 0 ≤ y) (h1 : x ≤ 2 ^ m) (h2 : y ≤ 2 ^ n) : 0 ≤ x * y ∧ x * y ≤ 2 ^ (m + n) := by
  refine ⟨Int.mul_nonneg hx hy, ?_⟩
  rw [Int.pow_add]
  exact Int.mul_le_mul h1 h2 hy (Int.pow_nonneg (by decide))
/-- slope, start, and how many: within the limits of the machine's numbers -/
structure Lim (a b c d : Int) : Prop where
  a0 : 0 ≤ a
  b0 : 0 < b
  c0 : 0 ≤ c
  d0 : 0 < d
  a1 : a ≤ 2 ^ 30
  b1 : b ≤ 2 ^ 30
  c1 : c ≤ 2 ^ 30
  d1 : d ≤ 2 ^ 30
theorem lg {z : Int} (h0 : 0 ≤ z) (h : z ≤ 2 ^ 99) : z.natAbs.log2 < 100 := log_lt h0 (by decide) (by omega)
structure LimE (a b c d k : Int) : Prop where
  e1 : k.natAbs.log2 + a.natAbs.log2 < 1000000
  e2 : (k * a).natAbs.log2 + d.natAbs.log2 < 1000000
  e3 : c.natAbs.log2 + b.natAbs.log2 < 1000000
  e4 : b.natAbs.log2 + d.natAbs.log2 < 1000000
  e5 : 0 < b * d
  e6 : (b * d).natAbs.log2 < 9000
theorem Lim.e {a b c d : Int} (l : Lim a b c d) {k : Int} (h0 : 0 ≤ k) (h1 : k ≤ 2 ^ 30) : LimE a b c d k := by
  obtain ⟨a0, b0, c0, d0, a1, b1, c1, d1⟩ := l
  obtain ⟨p0, p1⟩ := small_mul h0 a0 h1 a1
  obtain ⟨q0, q1⟩ := small_mul (Int.le_of_lt b0) (Int.le_of_lt d0) b1 d1
  have la := lg a0 (by omega)
  have lb := lg (Int.le_of_lt b0) (by omega)
  have lc := lg c0 (by omega)
  have ld := lg (Int.le_of_lt d0) (by omega)
  have lk := lg h0 (by omega)
  have lp := lg p0 (by omega)
  have lq := lg q0 (by omega)
  exact ⟨by omega, by omega, by omega, by omega, Int.mul_pos b0 d0, by omega⟩
theorem height_ok {a b c d k : Int} (l : Lim a b c d) (h0 : 0 ≤ k) (h1 : k ≤ 2 ^ 30) : f_height_at [.tup [.int a, .int b], .tup [.int c, .int d], .int k] = .ret (.imm (.int (ht a b c d k))) := by
  obtain ⟨e1, e2, e3, e4, e5, e6⟩ := l.e h0 h1
  simp [f_height_at, b_height_at, runP, runG, FO.of, FG.of, clo, own0, sSeq, sSkip, sAsg, sAsgO, sFrz, sIfS, sRet, sRetN, sDrop, sSet, sAugS, sAug, sPar, sPar3, sAsgT, tgN, tgT, tgCons, tgNil, eB, sVar, sOwn, sC, sC1, sR1, sC2, sR2, aNil, aCons, sCn, sRn, sCm, isTy, tTru, truth, tAn, tOr', tNo, tBool, sIf, sAn, sOr, sNo, dNil, dCons, frz, sLst, sTup, oNone, oSome, sSl, sChn, sIsa, sIsaLT, isaT, isaTy, tyOf, sCallP, sCallK, sCallG, sCallF, sPop, sApp, pick, getc, getv, getcs, getvs, Sl.get, orV, one, two, sFor, sWhile, sIt, itemsL, itemsT, itemsS, bYes, gAdd, TL.gSub, gMul, gDiv, gMod, gPow, gNeg, gLt, gLe, gGt, gGe, gEq, gNe, gIx, gLen, gInt, gAbs, gSum, gIn, gNotIn, gIs, gIsNot, isNone, isBl, atI, ixN, e1, e2, e3, e4, e5, e6, ht]
theorem joinS_one : ∀ l : List Nat, joinS [] (l.map fun c => [c]) = l
  | [] => rfl
  | [c] => rfl
  | c :: c' :: r => by
    have ih := joinS_one (c' :: r)
    simp only [List.map_cons] at ih ⊢
    simp only [joinS, ih]
    rfl
theorem strs_one : ∀ l : List Nat, strsD (l.map fun c => .str [c]) = some (l.map fun c => [c])
  | [] => rfl
  | c :: r => by simp [strsD, strs_one r]
theorem lens_one : ∀ l : List Nat, ((l.map fun c => [c]).map List.length).sum = l.length
  | [] => rfl
  | c :: r => by
    have := lens_one r
    simp only [List.map_cons, List.sum_cons, List.length_cons, List.length_nil]
    omega
theorem gJoin_one {l : List Nat} (h : l.length ≤ lim) : gJoin1 (.str []) (.lst (l.map fun c => .str [c])) = .val (.str l) := by
  simp only [gJoin1, strsOf, strs_one, lens_one, joinS_one, List.length_nil, Nat.mul_zero, Nat.add_zero, h, if_true]
theorem ix_map {F : Nat → D} {n k : Nat} (h : k < n) : gIx (.lst ((List.range n).map F)) (.int k) = .val (F k) := by
  have e : atI ((List.range n).map F) (k : Int) = some (F k) := atI_nat (by simp [h])
  simp only [gIx, e]
end K81

set_option Elab.async false
set_option linter.all false
set_option autoImplicit false
set_option maxRecDepth 100000
set_option maxHeartbeats 4000000
namespace K81
open PySem PySem.Spec PyProof.Rows L2 TL

theorem hts_ok {a b c d : Int} {n : Nat} {s3 s4 s5 : Sl} (l : Lim a b c d) (hn : n ≤ 24) (h4 : plSl s4 = true) : sLc [4] (sRng1 (sC2 gAdd (sVar 2) (sC (.int 1)))) (tgN 4) bYes (sCallP 3 f_height_at (dCons (sVar 0) (dCons (sVar 1) (dCons (sVar 4) (dNil))))) [.imm (.tup [.int a, .int b]), .imm (.tup [.int c, .int d]), .imm (.int n), s3, s4, s5] =
    .ok (.cell ((List.range (n + 1)).map fun k : Nat => .int (ht a b c d k))) [.imm (.tup [.int a, .int b]), .imm (.tup [.int c, .int d]), .imm (.int n), s3, s4, s5] := by
  have q := sLc_map (v := 4) (g := sRng1 (sC2 gAdd (sVar 2) (sC (.int 1)))) (f := sCallP 3 f_height_at (dCons (sVar 0) (dCons (sVar 1) (dCons (sVar 4) (dNil))))) (env := [.imm (.tup [.int a, .int b]), .imm (.tup [.int c, .int d]), .imm (.int n), s3, s4, s5]) (ds := (List.range (n + 1)).map fun k : Nat => .int k)
    (mI fun k => .int (ht a b c d k)) (rng1_ok (by simp [runP, runG, FO.of, FG.of, clo, own0, sSeq, sSkip, sAsg, sAsgO, sFrz, sIfS, sRet, sRetN, sDrop, sSet, sAugS, sAug, sPar, sPar3, sAsgT, tgN, tgT, tgCons, tgNil, eB, sVar, sOwn, sC, sC1, sR1, sC2, sR2, aNil, aCons, sCn, sRn, sCm, isTy, tTru, truth, tAn, tOr', tNo, tBool, sIf, sAn, sOr, sNo, dNil, dCons, frz, sLst, sTup, oNone, oSome, sSl, sChn, sIsa, sIsaLT, isaT, isaTy, tyOf, sCallP, sCallK, sCallG, sCallF, sPop, sApp, pick, getc, getv, getcs, getvs, Sl.get, orV, one, two, sFor, sWhile, sIt, itemsL, itemsT, itemsS, bYes, gAdd, TL.gSub, gMul, gDiv, gMod, gPow, gNeg, gLt, gLe, gGt, gGe, gEq, gNe, gIx, gLen, gInt, gAbs, gSum, gIn, gNotIn, gIs, gIsNot, isNone, isBl, atI, ixN]) (by omega)) (by simp) (plainAt_of rfl h4) (by rw [List.length_map, List.length_range, lim_def]; omega) (fun x hx => by
      obtain ⟨k, hk, rfl⟩ := List.mem_map.mp hx
      have := List.mem_range.mp hk
      have e := height_ok l (k := (k : Int)) (by omega) (by omega)
      exact ⟨.imm (.int (ht a b c d k)), by simp [runP, runG, FO.of, FG.of, clo, own0, sSeq, sSkip, sAsg, sAsgO, sFrz, sIfS, sRet, sRetN, sDrop, sSet, sAugS, sAug, sPar, sPar3, sAsgT, tgN, tgT, tgCons, tgNil, eB, sVar, sOwn, sC, sC1, sR1, sC2, sR2, aNil, aCons, sCn, sRn, sCm, isTy, tTru, truth, tAn, tOr', tNo, tBool, sIf, sAn, sOr, sNo, dNil, dCons, frz, sLst, sTup, oNone, oSome, sSl, sChn, sIsa, sIsaLT, isaT, isaTy, tyOf, sCallP, sCallK, sCallG, sCallF, sPop, sApp, pick, getc, getv, getcs, getvs, Sl.get, orV, one, two, sFor, sWhile, sIt, itemsL, itemsT, itemsS, bYes, gAdd, TL.gSub, gMul, gDiv, gMod, gPow, gNeg, gLt, gLe, gGt, gGe, gEq, gNe, gIx, gLen, gInt, gAbs, gSum, gIn, gNotIn, gIs, gIsNot, isNone, isBl, atI, ixN, e], rfl⟩)
  rw [mI_range] at q
  exact q
theorem sgn_ok {a b c d : Int} {n : Nat} {s0 s1 s4 s5 : Sl} (hn : n ≤ 24) (h5 : plSl s5 = true) : sLc [5] (sRng1 (sVar 2)) (tgN 5) bYes (sIf (tBool (sC2 gGt (sC2 gIx (sVar 3) (sC2 gAdd (sVar 5) (sC (.int 1)))) (sC2 gIx (sVar 3) (sVar 5)))) (sC (.str [98])) (sC (.str [97]))) [s0, s1, .imm (.int n), .imm (.lst ((List.range (n + 1)).map fun k : Nat => .int (ht a b c d k))), s4, s5] =
    .ok (.cell ((lineW a b c d n).map fun c => .str [c])) [s0, s1, .imm (.int n), .imm (.lst ((List.range (n + 1)).map fun k : Nat => .int (ht a b c d k))), s4, s5] := by
  have q := sLc_map (v := 5) (g := sRng1 (sVar 2)) (f := sIf (tBool (sC2 gGt (sC2 gIx (sVar 3) (sC2 gAdd (sVar 5) (sC (.int 1)))) (sC2 gIx (sVar 3) (sVar 5)))) (sC (.str [98])) (sC (.str [97]))) (env := [s0, s1, .imm (.int n), .imm (.lst ((List.range (n + 1)).map fun k : Nat => .int (ht a b c d k))), s4, s5]) (ds := (List.range n).map fun k : Nat => .int k)
    (mI fun k => .str [if ht a b c d k < ht a b c d (k + 1) then 98 else 97]) (rng1_ok (by simp [runP, runG, FO.of, FG.of, clo, own0, sSeq, sSkip, sAsg, sAsgO, sFrz, sIfS, sRet, sRetN, sDrop, sSet, sAugS, sAug, sPar, sPar3, sAsgT, tgN, tgT, tgCons, tgNil, eB, sVar, sOwn, sC, sC1, sR1, sC2, sR2, aNil, aCons, sCn, sRn, sCm, isTy, tTru, truth, tAn, tOr', tNo, tBool, sIf, sAn, sOr, sNo, dNil, dCons, frz, sLst, sTup, oNone, oSome, sSl, sChn, sIsa, sIsaLT, isaT, isaTy, tyOf, sCallP, sCallK, sCallG, sCallF, sPop, sApp, pick, getc, getv, getcs, getvs, Sl.get, orV, one, two, sFor, sWhile, sIt, itemsL, itemsT, itemsS, bYes, gAdd, TL.gSub, gMul, gDiv, gMod, gPow, gNeg, gLt, gLe, gGt, gGe, gEq, gNe, gIx, gLen, gInt, gAbs, gSum, gIn, gNotIn, gIs, gIsNot, isNone, isBl, atI, ixN]) (by omega)) (by simp) (plainAt_of rfl h5) (by rw [List.length_map, List.length_range, lim_def]; omega) (fun x hx => by
      obtain ⟨k, hk, rfl⟩ := List.mem_map.mp hx
      have hk := List.mem_range.mp hk
      have i1 := ix_map (F := fun k : Nat => .int (ht a b c d k)) (n := n + 1) (k := k + 1) (by omega)
      have i0 := ix_map (F := fun k : Nat => .int (ht a b c d k)) (n := n + 1) (k := k) (by omega)
      have e1 : ((k + 1 : Nat) : Int) = (k : Int) + 1 := by omega
      simp only [e1] at i1
      refine ⟨.imm (.str [if ht a b c d k < ht a b c d (k + 1) then 98 else 97]), ?_, rfl⟩
      simp only [sIf, tBool, sC2, sVar, sC, List.set_cons_succ, List.set_cons_zero, List.getElem?_cons_succ, List.getElem?_cons_zero, Out.bind_ok, getc, gAdd, orV, i1, i0, gGt]
      by_cases q : ht a b c d k < ht a b c d (k + 1)
      · simp only [q, decide_true, if_true]
      · simp only [q, decide_false, if_false, Bool.false_eq_true])
  rw [mI_range] at q
  rw [q]
  simp only [lineW, List.map_map]
  rfl
theorem f_line_by_eq (x y z : D) : f_line_by [x, y, z] = FO.of (b_line_by [.imm x, .imm y, .imm z, .non, .non, .non]) := rfl
theorem lineW_len {a b c d : Int} {n : Nat} : (lineW a b c d n).length = n := by simp [lineW]
theorem line_gen {x y z : D} {hs ss : List D} {w : List Nat} (h1 : sLc [4] (sRng1 (sC2 gAdd (sVar 2) (sC (.int 1)))) (tgN 4) bYes (sCallP 3 f_height_at (dCons (sVar 0) (dCons (sVar 1) (dCons (sVar 4) (dNil))))) [.imm x, .imm y, .imm z, .non, .non, .non] = .ok (.cell hs) [.imm x, .imm y, .imm z, .non, .non, .non])
    (h2 : sLc [5] (sRng1 (sVar 2)) (tgN 5) bYes (sIf (tBool (sC2 gGt (sC2 gIx (sVar 3) (sC2 gAdd (sVar 5) (sC (.int 1)))) (sC2 gIx (sVar 3) (sVar 5)))) (sC (.str [98])) (sC (.str [97]))) [.imm x, .imm y, .imm z, .imm (.lst hs), .non, .non] = .ok (.cell ss) [.imm x, .imm y, .imm z, .imm (.lst hs), .non, .non])
    (h3 : gJoin1 (.str []) (.lst ss) = .val (.str w)) : f_line_by [x, y, z] = .ret (.imm (.str w)) := by
  rw [f_line_by_eq]
  simp only [b_line_by, sSeq, sAsg, h1, eB_ok, frz, List.set_cons_succ, List.set_cons_zero]
  simp only [sRet, sCm, sC, aCons, aNil, h2, Out.bind_ok, getv, isTy, getcs, getc, gJoin, one, h3, orV, eB_ok, FO.of, clo, if_true]
theorem line_ok {a b c d : Int} {n : Nat} (l : Lim a b c d) (hn : n ≤ 24) : f_line_by [.tup [.int a, .int b], .tup [.int c, .int d], .int n] = .ret (.imm (.str (lineW a b c d n))) :=
  line_gen (hts_ok l hn (s4 := .non) rfl) (sgn_ok hn (s5 := .non) rfl) (gJoin_one (l := lineW a b c d n) (by rw [lineW_len, lim_def]; omega))
end K81

set_option Elab.async false
set_option linter.all false
set_option autoImplicit false
set_option maxRecDepth 100000
set_option maxHeartbeats 4000000
namespace K81
open PySem PySem.Spec PyProof.Rows L2 TL

theorem lh_item {a b c d k : Int} {s2 s4 s6 : Sl} (l : Lim a b c d) (h0 : 0 ≤ k) (h1 : k ≤ 2 ^ 30) : sC2 gDiv (sC2 gAdd (sC2 gMul (sC2 gMul (sVar 5) (sC2 gIx (sVar 0) (sC (.int 0)))) (sC2 gIx (sVar 1) (sC (.int 1)))) (sC2 gMul (sC2 gIx (sVar 1) (sC (.int 0))) (sC2 gIx (sVar 0) (sC (.int 1))))) (sVar 3) [.imm (.tup [.int a, .int b]), .imm (.tup [.int c, .int d]), s2, .imm (.int (b * d)), s4, .imm (.int k), s6] =
    .ok (.imm (.int (ht a b c d k))) [.imm (.tup [.int a, .int b]), .imm (.tup [.int c, .int d]), s2, .imm (.int (b * d)), s4, .imm (.int k), s6] := by
  obtain ⟨e1, e2, e3, e4, e5, e6⟩ := l.e h0 h1
  simp [runP, runG, FO.of, FG.of, clo, own0, sSeq, sSkip, sAsg, sAsgO, sFrz, sIfS, sRet, sRetN, sDrop, sSet, sAugS, sAug, sPar, sPar3, sAsgT, tgN, tgT, tgCons, tgNil, eB, sVar, sOwn, sC, sC1, sR1, sC2, sR2, aNil, aCons, sCn, sRn, sCm, isTy, tTru, truth, tAn, tOr', tNo, tBool, sIf, sAn, sOr, sNo, dNil, dCons, frz, sLst, sTup, oNone, oSome, sSl, sChn, sIsa, sIsaLT, isaT, isaTy, tyOf, sCallP, sCallK, sCallG, sCallF, sPop, sApp, pick, getc, getv, getcs, getvs, Sl.get, orV, one, two, sFor, sWhile, sIt, itemsL, itemsT, itemsS, bYes, gAdd, TL.gSub, gMul, gDiv, gMod, gPow, gNeg, gLt, gLe, gGt, gGe, gEq, gNe, gIx, gLen, gInt, gAbs, gSum, gIn, gNotIn, gIs, gIsNot, isNone, isBl, atI, ixN, e1, e2, e3, e4, e5, e6, ht]
theorem lhts_ok {a b c d : Int} {n : Nat} {s4 s5 s6 : Sl} (l : Lim a b c d) (hn : n ≤ 24) (h5 : plSl s5 = true) : sLc [5] (sRng1 (sC2 gAdd (sVar 2) (sC (.int 1)))) (tgN 5) (bYes) (sC2 gDiv (sC2 gAdd (sC2 gMul (sC2 gMul (sVar 5) (sC2 gIx (sVar 0) (sC (.int 0)))) (sC2 gIx (sVar 1) (sC (.int 1)))) (sC2 gMul (sC2 gIx (sVar 1) (sC (.int 0))) (sC2 gIx (sVar 0) (sC (.int 1))))) (sVar 3)) [.imm (.tup [.int a, .int b]), .imm (.tup [.int c, .int d]), .imm (.int n), .imm (.int (b * d)), s4, s5, s6] =
    .ok (.cell ((List.range (n + 1)).map fun k : Nat => .int (ht a b c d k))) [.imm (.tup [.int a, .int b]), .imm (.tup [.int c, .int d]), .imm (.int n), .imm (.int (b * d)), s4, s5, s6] := by
  have q := sLc_map (v := 5) (g := sRng1 (sC2 gAdd (sVar 2) (sC (.int 1)))) (f := sC2 gDiv (sC2 gAdd (sC2 gMul (sC2 gMul (sVar 5) (sC2 gIx (sVar 0) (sC (.int 0)))) (sC2 gIx (sVar 1) (sC (.int 1)))) (sC2 gMul (sC2 gIx (sVar 1) (sC (.int 0))) (sC2 gIx (sVar 0) (sC (.int 1))))) (sVar 3)) (env := [.imm (.tup [.int a, .int b]), .imm (.tup [.int c, .int d]), .imm (.int n), .imm (.int (b * d)), s4, s5, s6]) (ds := (List.range (n + 1)).map fun k : Nat => .int k)
    (mI fun k => .int (ht a b c d k)) (rng1_ok (by simp [runP, runG, FO.of, FG.of, clo, own0, sSeq, sSkip, sAsg, sAsgO, sFrz, sIfS, sRet, sRetN, sDrop, sSet, sAugS, sAug, sPar, sPar3, sAsgT, tgN, tgT, tgCons, tgNil, eB, sVar, sOwn, sC, sC1, sR1, sC2, sR2, aNil, aCons, sCn, sRn, sCm, isTy, tTru, truth, tAn, tOr', tNo, tBool, sIf, sAn, sOr, sNo, dNil, dCons, frz, sLst, sTup, oNone, oSome, sSl, sChn, sIsa, sIsaLT, isaT, isaTy, tyOf, sCallP, sCallK, sCallG, sCallF, sPop, sApp, pick, getc, getv, getcs, getvs, Sl.get, orV, one, two, sFor, sWhile, sIt, itemsL, itemsT, itemsS, bYes, gAdd, TL.gSub, gMul, gDiv, gMod, gPow, gNeg, gLt, gLe, gGt, gGe, gEq, gNe, gIx, gLen, gInt, gAbs, gSum, gIn, gNotIn, gIs, gIsNot, isNone, isBl, atI, ixN]) (by omega)) (by simp) (plainAt_of rfl h5) (by rw [List.length_map, List.length_range, lim_def]; omega) (fun x hx => by
      obtain ⟨k, hk, rfl⟩ := List.mem_map.mp hx
      have := List.mem_range.mp hk
      exact ⟨.imm (.int (ht a b c d k)), lh_item l (k := (k : Int)) (by omega) (by omega), rfl⟩)
  rw [mI_range] at q
  exact q
theorem pick_ab {z : Int} (h : z = 0 ∨ z = 1) : gIx (.lst [.str [97], .str [98]]) (.int z) = .val (.str [if 0 < z then 98 else 97]) := by
  rcases h with rfl | rfl <;> simp [gIx, atI, ixN]
theorem ls_item {s0 s1 s2 s3 s5 : Sl} {hs : List D} {k u v : Int} (i1 : gIx (.lst hs) (.int (k + 1)) = .val (.int u)) (i0 : gIx (.lst hs) (.int k) = .val (.int v)) (h : u - v = 0 ∨ u - v = 1) :
    sC2 gIx (sLst (dCons (sC (.str [97])) (dCons (sC (.str [98])) (dNil)))) (sC2 TL.gSub (sC2 gIx (sVar 4) (sC2 gAdd (sVar 6) (sC (.int 1)))) (sC2 gIx (sVar 4) (sVar 6))) [s0, s1, s2, s3, .imm (.lst hs), s5, .imm (.int k)] = .ok (.imm (.str [if 0 < u - v then 98 else 97])) [s0, s1, s2, s3, .imm (.lst hs), s5, .imm (.int k)] := by
  have p := pick_ab h
  simp [sC2, sLst, dCons, dNil, sC, frz, lim_def, sVar, getc, gAdd, orV, i1, i0, TL.gSub, p]
theorem lsgn_ok {a b c d : Int} {n : Nat} {s0 s1 s3 s5 s6 : Sl} (l : Lim a b c d) (hab : a ≤ b) (hn : n ≤ 24) (h6 : plSl s6 = true) : sLc [6] (sRng1 (sVar 2)) (tgN 6) bYes (sC2 gIx (sLst (dCons (sC (.str [97])) (dCons (sC (.str [98])) (dNil)))) (sC2 TL.gSub (sC2 gIx (sVar 4) (sC2 gAdd (sVar 6) (sC (.int 1)))) (sC2 gIx (sVar 4) (sVar 6)))) [s0, s1, .imm (.int n), s3, .imm (.lst ((List.range (n + 1)).map fun k : Nat => .int (ht a b c d k))), s5, s6] =
    .ok (.cell ((lineW a b c d n).map fun c => .str [c])) [s0, s1, .imm (.int n), s3, .imm (.lst ((List.range (n + 1)).map fun k : Nat => .int (ht a b c d k))), s5, s6] := by
  have q := sLc_map (v := 6) (g := sRng1 (sVar 2)) (f := sC2 gIx (sLst (dCons (sC (.str [97])) (dCons (sC (.str [98])) (dNil)))) (sC2 TL.gSub (sC2 gIx (sVar 4) (sC2 gAdd (sVar 6) (sC (.int 1)))) (sC2 gIx (sVar 4) (sVar 6)))) (env := [s0, s1, .imm (.int n), s3, .imm (.lst ((List.range (n + 1)).map fun k : Nat => .int (ht a b c d k))), s5, s6]) (ds := (List.range n).map fun k : Nat => .int k)
    (mI fun k => .str [if 0 < ht a b c d (k + 1) - ht a b c d k then 98 else 97]) (rng1_ok (by simp [runP, runG, FO.of, FG.of, clo, own0, sSeq, sSkip, sAsg, sAsgO, sFrz, sIfS, sRet, sRetN, sDrop, sSet, sAugS, sAug, sPar, sPar3, sAsgT, tgN, tgT, tgCons, tgNil, eB, sVar, sOwn, sC, sC1, sR1, sC2, sR2, aNil, aCons, sCn, sRn, sCm, isTy, tTru, truth, tAn, tOr', tNo, tBool, sIf, sAn, sOr, sNo, dNil, dCons, frz, sLst, sTup, oNone, oSome, sSl, sChn, sIsa, sIsaLT, isaT, isaTy, tyOf, sCallP, sCallK, sCallG, sCallF, sPop, sApp, pick, getc, getv, getcs, getvs, Sl.get, orV, one, two, sFor, sWhile, sIt, itemsL, itemsT, itemsS, bYes, gAdd, TL.gSub, gMul, gDiv, gMod, gPow, gNeg, gLt, gLe, gGt, gGe, gEq, gNe, gIx, gLen, gInt, gAbs, gSum, gIn, gNotIn, gIs, gIsNot, isNone, isBl, atI, ixN]) (by omega)) (by simp) (plainAt_of rfl h6) (by rw [List.length_map, List.length_range, lim_def]; omega) (fun x hx => by
      obtain ⟨k, hk, rfl⟩ := List.mem_map.mp hx
      have hk := List.mem_range.mp hk
      have i1 := ix_map (F := fun k : Nat => .int (ht a b c d k)) (n := n + 1) (k := k + 1) (by omega)
      have i0 := ix_map (F := fun k : Nat => .int (ht a b c d k)) (n := n + 1) (k := k) (by omega)
      have e1 : ((k + 1 : Nat) : Int) = (k : Int) + 1 := by omega
      simp only [e1] at i1
      exact ⟨_, ls_item i1 i0 (ht_step l.a0 hab l.b0 l.d0), rfl⟩)
  rw [mI_range] at q
  rw [q]
  have e : ∀ k : Nat, (if 0 < ht a b c d ((k : Int) + 1) - ht a b c d k then 98 else 97) = (if ht a b c d (k : Int) < ht a b c d ((k : Int) + 1) then 98 else 97 : Nat) := fun k => by
    by_cases h : ht a b c d (k : Int) < ht a b c d ((k : Int) + 1)
    · rw [if_pos h, if_pos (by omega)]
    · rw [if_neg h, if_neg (by omega)]
  simp only [e, lineW, List.map_map]
  rfl
theorem f__law_line_eq (x y z : D) : f__law_line [x, y, z] = FO.of (b__law_line [.imm x, .imm y, .imm z, .non, .non, .non, .non]) := rfl
theorem lline_gen {x y z u : D} {hs ss : List D} {w : List Nat} (h0 : sC2 gMul (sC2 gIx (sVar 0) (sC (.int 1))) (sC2 gIx (sVar 1) (sC (.int 1))) [.imm x, .imm y, .imm z, .non, .non, .non, .non] = .ok (.imm u) [.imm x, .imm y, .imm z, .non, .non, .non, .non])
    (h1 : sLc [5] (sRng1 (sC2 gAdd (sVar 2) (sC (.int 1)))) (tgN 5) (bYes) (sC2 gDiv (sC2 gAdd (sC2 gMul (sC2 gMul (sVar 5) (sC2 gIx (sVar 0) (sC (.int 0)))) (sC2 gIx (sVar 1) (sC (.int 1)))) (sC2 gMul (sC2 gIx (sVar 1) (sC (.int 0))) (sC2 gIx (sVar 0) (sC (.int 1))))) (sVar 3)) [.imm x, .imm y, .imm z, .imm u, .non, .non, .non] = .ok (.cell hs) [.imm x, .imm y, .imm z, .imm u, .non, .non, .non])
    (h2 : sLc [6] (sRng1 (sVar 2)) (tgN 6) bYes (sC2 gIx (sLst (dCons (sC (.str [97])) (dCons (sC (.str [98])) (dNil)))) (sC2 TL.gSub (sC2 gIx (sVar 4) (sC2 gAdd (sVar 6) (sC (.int 1)))) (sC2 gIx (sVar 4) (sVar 6)))) [.imm x, .imm y, .imm z, .imm u, .imm (.lst hs), .non, .non] = .ok (.cell ss) [.imm x, .imm y, .imm z, .imm u, .imm (.lst hs), .non, .non])
    (h3 : gJoin1 (.str []) (.lst ss) = .val (.str w)) : f__law_line [x, y, z] = .ret (.imm (.str w)) := by
  rw [f__law_line_eq]
  simp only [b__law_line, sSeq, sAsg, h0, h1, eB_ok, frz, List.set_cons_succ, List.set_cons_zero]
  simp only [sRet, sCm, sC, aCons, aNil, h2, Out.bind_ok, getv, isTy, getcs, getc, gJoin, one, h3, orV, eB_ok, FO.of, clo, if_true]
theorem und_ok {a b c d : Int} {s2 : Sl} (l : Lim a b c d) : sC2 gMul (sC2 gIx (sVar 0) (sC (.int 1))) (sC2 gIx (sVar 1) (sC (.int 1))) [.imm (.tup [.int a, .int b]), .imm (.tup [.int c, .int d]), s2, .non, .non, .non, .non] = .ok (.imm (.int (b * d))) [.imm (.tup [.int a, .int b]), .imm (.tup [.int c, .int d]), s2, .non, .non, .non, .non] := by
  obtain ⟨e1, e2, e3, e4, e5, e6⟩ := l.e (k := 0) (by decide) (by decide)
  simp [runP, runG, FO.of, FG.of, clo, own0, sSeq, sSkip, sAsg, sAsgO, sFrz, sIfS, sRet, sRetN, sDrop, sSet, sAugS, sAug, sPar, sPar3, sAsgT, tgN, tgT, tgCons, tgNil, eB, sVar, sOwn, sC, sC1, sR1, sC2, sR2, aNil, aCons, sCn, sRn, sCm, isTy, tTru, truth, tAn, tOr', tNo, tBool, sIf, sAn, sOr, sNo, dNil, dCons, frz, sLst, sTup, oNone, oSome, sSl, sChn, sIsa, sIsaLT, isaT, isaTy, tyOf, sCallP, sCallK, sCallG, sCallF, sPop, sApp, pick, getc, getv, getcs, getvs, Sl.get, orV, one, two, sFor, sWhile, sIt, itemsL, itemsT, itemsS, bYes, gAdd, TL.gSub, gMul, gDiv, gMod, gPow, gNeg, gLt, gLe, gGt, gGe, gEq, gNe, gIx, gLen, gInt, gAbs, gSum, gIn, gNotIn, gIs, gIsNot, isNone, isBl, atI, ixN, e4]
theorem lline_ok {a b c d : Int} {n : Nat} (l : Lim a b c d) (hab : a ≤ b) (hn : n ≤ 24) : f__law_line [.tup [.int a, .int b], .tup [.int c, .int d], .int n] = .ret (.imm (.str (lineW a b c d n))) :=
  lline_gen (und_ok l) (lhts_ok l hn rfl) (lsgn_ok l hab hn rfl) (gJoin_one (l := lineW a b c d n) (by rw [lineW_len, lim_def]; omega))
end K81

set_option Elab.async false
set_option linter.all false
set_option autoImplicit false
set_option maxRecDepth 100000
set_option maxHeartbeats 4000000
namespace K81
open PySem PySem.Spec PyProof.Rows L2 TL

theorem whole_ok (z : Int) : f_is_whole [.int z] = .ret (.imm (.bl true)) := by simp [f_is_whole, b_is_whole, runP, runG, FO.of, FG.of, clo, own0, sSeq, sSkip, sAsg, sAsgO, sFrz, sIfS, sRet, sRetN, sDrop, sSet, sAugS, sAug, sPar, sPar3, sAsgT, tgN, tgT, tgCons, tgNil, eB, sVar, sOwn, sC, sC1, sR1, sC2, sR2, aNil, aCons, sCn, sRn, sCm, isTy, tTru, truth, tAn, tOr', tNo, tBool, sIf, sAn, sOr, sNo, dNil, dCons, frz, sLst, sTup, oNone, oSome, sSl, sChn, sIsa, sIsaLT, isaT, isaTy, tyOf, sCallP, sCallK, sCallG, sCallF, sPop, sApp, pick, getc, getv, getcs, getvs, Sl.get, orV, one, two, sFor, sWhile, sIt, itemsL, itemsT, itemsS, bYes, gAdd, TL.gSub, gMul, gDiv, gMod, gPow, gNeg, gLt, gLe, gGt, gGe, gEq, gNe, gIx, gLen, gInt, gAbs, gSum, gIn, gNotIn, gIs, gIsNot, isNone, isBl, atI, ixN]
theorem count_ok {z : Int} (h : 0 ≤ z) : f_is_count [.int z] = .ret (.imm (.bl true)) := by simp [f_is_count, b_is_count, runP, runG, FO.of, FG.of, clo, own0, sSeq, sSkip, sAsg, sAsgO, sFrz, sIfS, sRet, sRetN, sDrop, sSet, sAugS, sAug, sPar, sPar3, sAsgT, tgN, tgT, tgCons, tgNil, eB, sVar, sOwn, sC, sC1, sR1, sC2, sR2, aNil, aCons, sCn, sRn, sCm, isTy, tTru, truth, tAn, tOr', tNo, tBool, sIf, sAn, sOr, sNo, dNil, dCons, frz, sLst, sTup, oNone, oSome, sSl, sChn, sIsa, sIsaLT, isaT, isaTy, tyOf, sCallP, sCallK, sCallG, sCallF, sPop, sApp, pick, getc, getv, getcs, getvs, Sl.get, orV, one, two, sFor, sWhile, sIt, itemsL, itemsT, itemsS, bYes, gAdd, TL.gSub, gMul, gDiv, gMod, gPow, gNeg, gLt, gLe, gGt, gGe, gEq, gNe, gIx, gLen, gInt, gAbs, gSum, gIn, gNotIn, gIs, gIsNot, isNone, isBl, atI, ixN, whole_ok, h]
theorem size_ok {z m : Int} (h : 0 ≤ z) (h2 : z ≤ m) : f_check_size [.int z, .int m] = .ret (.imm .non) := by simp [f_check_size, b_check_size, runP, runG, FO.of, FG.of, clo, own0, sSeq, sSkip, sAsg, sAsgO, sFrz, sIfS, sRet, sRetN, sDrop, sSet, sAugS, sAug, sPar, sPar3, sAsgT, tgN, tgT, tgCons, tgNil, eB, sVar, sOwn, sC, sC1, sR1, sC2, sR2, aNil, aCons, sCn, sRn, sCm, isTy, tTru, truth, tAn, tOr', tNo, tBool, sIf, sAn, sOr, sNo, dNil, dCons, frz, sLst, sTup, oNone, oSome, sSl, sChn, sIsa, sIsaLT, isaT, isaTy, tyOf, sCallP, sCallK, sCallG, sCallF, sPop, sApp, pick, getc, getv, getcs, getvs, Sl.get, orV, one, two, sFor, sWhile, sIt, itemsL, itemsT, itemsS, bYes, gAdd, TL.gSub, gMul, gDiv, gMod, gPow, gNeg, gLt, gLe, gGt, gGe, gEq, gNe, gIx, gLen, gInt, gAbs, gSum, gIn, gNotIn, gIs, gIsNot, isNone, isBl, atI, ixN, count_ok h, show ¬ m < z by omega]
theorem part_ok {a b : Int} (h : 0 ≤ a) (h1 : a ≤ b) (h2 : 0 < b) (h3 : Int.gcd a b = 1) : f_is_part_by [.tup [.int a, .int b]] = .ret (.imm (.bl true)) := by
  have q := sLc_map (v := 1) (g := sIt itemsT (sVar 0)) (f := sCallP 1 f_is_whole (dCons (sVar 1) (dNil))) (env := [.imm (.tup [.int a, .int b]), .non]) (ds := [.int a, .int b]) (fun _ => .bl true) (by simp [runP, runG, FO.of, FG.of, clo, own0, sSeq, sSkip, sAsg, sAsgO, sFrz, sIfS, sRet, sRetN, sDrop, sSet, sAugS, sAug, sPar, sPar3, sAsgT, tgN, tgT, tgCons, tgNil, eB, sVar, sOwn, sC, sC1, sR1, sC2, sR2, aNil, aCons, sCn, sRn, sCm, isTy, tTru, truth, tAn, tOr', tNo, tBool, sIf, sAn, sOr, sNo, dNil, dCons, frz, sLst, sTup, oNone, oSome, sSl, sChn, sIsa, sIsaLT, isaT, isaTy, tyOf, sCallP, sCallK, sCallG, sCallF, sPop, sApp, pick, getc, getv, getcs, getvs, Sl.get, orV, one, two, sFor, sWhile, sIt, itemsL, itemsT, itemsS, bYes, gAdd, TL.gSub, gMul, gDiv, gMod, gPow, gNeg, gLt, gLe, gGt, gGe, gEq, gNe, gIx, gLen, gInt, gAbs, gSum, gIn, gNotIn, gIs, gIsNot, isNone, isBl, atI, ixN]) (by simp) rfl (by simp [lim_def]) (fun d hd => by
    rcases List.mem_cons.mp hd with rfl | hd
    · exact ⟨.imm (.bl true), by simp [runP, runG, FO.of, FG.of, clo, own0, sSeq, sSkip, sAsg, sAsgO, sFrz, sIfS, sRet, sRetN, sDrop, sSet, sAugS, sAug, sPar, sPar3, sAsgT, tgN, tgT, tgCons, tgNil, eB, sVar, sOwn, sC, sC1, sR1, sC2, sR2, aNil, aCons, sCn, sRn, sCm, isTy, tTru, truth, tAn, tOr', tNo, tBool, sIf, sAn, sOr, sNo, dNil, dCons, frz, sLst, sTup, oNone, oSome, sSl, sChn, sIsa, sIsaLT, isaT, isaTy, tyOf, sCallP, sCallK, sCallG, sCallF, sPop, sApp, pick, getc, getv, getcs, getvs, Sl.get, orV, one, two, sFor, sWhile, sIt, itemsL, itemsT, itemsS, bYes, gAdd, TL.gSub, gMul, gDiv, gMod, gPow, gNeg, gLt, gLe, gGt, gGe, gEq, gNe, gIx, gLen, gInt, gAbs, gSum, gIn, gNotIn, gIs, gIsNot, isNone, isBl, atI, ixN, whole_ok], rfl⟩
    · rw [List.mem_singleton.mp hd]
      exact ⟨.imm (.bl true), by simp [runP, runG, FO.of, FG.of, clo, own0, sSeq, sSkip, sAsg, sAsgO, sFrz, sIfS, sRet, sRetN, sDrop, sSet, sAugS, sAug, sPar, sPar3, sAsgT, tgN, tgT, tgCons, tgNil, eB, sVar, sOwn, sC, sC1, sR1, sC2, sR2, aNil, aCons, sCn, sRn, sCm, isTy, tTru, truth, tAn, tOr', tNo, tBool, sIf, sAn, sOr, sNo, dNil, dCons, frz, sLst, sTup, oNone, oSome, sSl, sChn, sIsa, sIsaLT, isaT, isaTy, tyOf, sCallP, sCallK, sCallG, sCallF, sPop, sApp, pick, getc, getv, getcs, getvs, Sl.get, orV, one, two, sFor, sWhile, sIt, itemsL, itemsT, itemsS, bYes, gAdd, TL.gSub, gMul, gDiv, gMod, gPow, gNeg, gLt, gLe, gGt, gGe, gEq, gNe, gIx, gLen, gInt, gAbs, gSum, gIn, gNotIn, gIs, gIsNot, isNone, isBl, atI, ixN, whole_ok], rfl⟩)
  have e := pdiv_ok h (Int.le_of_lt h2)
  rw [h3] at e
  simp [f_is_part_by, b_is_part_by, runP, runG, FO.of, FG.of, clo, own0, sSeq, sSkip, sAsg, sAsgO, sFrz, sIfS, sRet, sRetN, sDrop, sSet, sAugS, sAug, sPar, sPar3, sAsgT, tgN, tgT, tgCons, tgNil, eB, sVar, sOwn, sC, sC1, sR1, sC2, sR2, aNil, aCons, sCn, sRn, sCm, isTy, tTru, truth, tAn, tOr', tNo, tBool, sIf, sAn, sOr, sNo, dNil, dCons, frz, sLst, sTup, oNone, oSome, sSl, sChn, sIsa, sIsaLT, isaT, isaTy, tyOf, sCallP, sCallK, sCallG, sCallF, sPop, sApp, pick, getc, getv, getcs, getvs, Sl.get, orV, one, two, sFor, sWhile, sIt, itemsL, itemsT, itemsS, bYes, gAdd, TL.gSub, gMul, gDiv, gMod, gPow, gNeg, gLt, gLe, gGt, gGe, gEq, gNe, gIx, gLen, gInt, gAbs, gSum, gIn, gNotIn, gIs, gIsNot, isNone, isBl, atI, ixN, q, gAll, blsL, blsD, eqv, pur, dep, h, h1, h2, e]
theorem start_ok {a b : Int} (h : 0 ≤ a) (h1 : a < b) (h3 : Int.gcd a b = 1) : f_is_start_by [.tup [.int a, .int b]] = .ret (.imm (.bl true)) := by
  simp [f_is_start_by, b_is_start_by, runP, runG, FO.of, FG.of, clo, own0, sSeq, sSkip, sAsg, sAsgO, sFrz, sIfS, sRet, sRetN, sDrop, sSet, sAugS, sAug, sPar, sPar3, sAsgT, tgN, tgT, tgCons, tgNil, eB, sVar, sOwn, sC, sC1, sR1, sC2, sR2, aNil, aCons, sCn, sRn, sCm, isTy, tTru, truth, tAn, tOr', tNo, tBool, sIf, sAn, sOr, sNo, dNil, dCons, frz, sLst, sTup, oNone, oSome, sSl, sChn, sIsa, sIsaLT, isaT, isaTy, tyOf, sCallP, sCallK, sCallG, sCallF, sPop, sApp, pick, getc, getv, getcs, getvs, Sl.get, orV, one, two, sFor, sWhile, sIt, itemsL, itemsT, itemsS, bYes, gAdd, TL.gSub, gMul, gDiv, gMod, gPow, gNeg, gLt, gLe, gGt, gGe, gEq, gNe, gIx, gLen, gInt, gAbs, gSum, gIn, gNotIn, gIs, gIsNot, isNone, isBl, atI, ixN, part_ok h (Int.le_of_lt h1) (by omega) h3, h1]
theorem word_gen {x y z : D} {r : Val} (h1 : f_is_part_by [x] = .ret (.imm (.bl true))) (h2 : f_is_start_by [y] = .ret (.imm (.bl true))) (h3 : f_check_size [z, .int 24] = .ret (.imm .non)) (h4 : f_line_by [x, y, z] = .ret r) (hr : ∀ i, r ≠ .view i) : f_line_word [x, y, z] = .ret r := by
  cases r with
  | view i => exact absurd rfl (hr i)
  | _ => simp [f_line_word, b_line_word, runP, runG, FO.of, FG.of, clo, own0, sSeq, sSkip, sAsg, sAsgO, sFrz, sIfS, sRet, sRetN, sDrop, sSet, sAugS, sAug, sPar, sPar3, sAsgT, tgN, tgT, tgCons, tgNil, eB, sVar, sOwn, sC, sC1, sR1, sC2, sR2, aNil, aCons, sCn, sRn, sCm, isTy, tTru, truth, tAn, tOr', tNo, tBool, sIf, sAn, sOr, sNo, dNil, dCons, frz, sLst, sTup, oNone, oSome, sSl, sChn, sIsa, sIsaLT, isaT, isaTy, tyOf, sCallP, sCallK, sCallG, sCallF, sPop, sApp, pick, getc, getv, getcs, getvs, Sl.get, orV, one, two, sFor, sWhile, sIt, itemsL, itemsT, itemsS, bYes, gAdd, TL.gSub, gMul, gDiv, gMod, gPow, gNeg, gLt, gLe, gGt, gGe, gEq, gNe, gIx, gLen, gInt, gAbs, gSum, gIn, gNotIn, gIs, gIsNot, isNone, isBl, atI, ixN, h1, h2, h3, h4]
theorem word_ok {a b c d : Int} {n : Nat} (l : Lim a b c d) (hab : a ≤ b) (hcd : c < d) (g1 : Int.gcd a b = 1) (g2 : Int.gcd c d = 1) (hn : n ≤ 24) : f_line_word [.tup [.int a, .int b], .tup [.int c, .int d], .int n] = .ret (.imm (.str (lineW a b c d n))) :=
  word_gen (part_ok l.a0 hab l.b0 g1) (start_ok l.c0 hcd g2) (size_ok (by omega) (by omega)) (line_ok l hn) (fun i z => by cases z)
/-- the least word of a ring -/
def leastW (r h : Nat) : List Nat := if r + h = 0 then [] else lineW ((h : Int) / Int.gcd h (r + h : Nat)) (((r + h : Nat) : Int) / Int.gcd h (r + h : Nat)) 0 1 (r + h)
theorem limL {r h : Nat} (h0 : 0 < r + h) (hs : r + h ≤ 24) : Lim ((h : Int) / Int.gcd h (r + h : Nat)) (((r + h : Nat) : Int) / Int.gcd h (r + h : Nat)) 0 1 ∧ (h : Int) / Int.gcd h (r + h : Nat) ≤ ((r + h : Nat) : Int) / Int.gcd h (r + h : Nat) := by
  obtain ⟨g0, g1, _⟩ := gcd_bd (x := (h : Int)) (y := ((r + h : Nat) : Int)) (by omega) (by omega)
  have d1 : ((Int.gcd h (r + h : Nat) : Nat) : Int) ∣ ((r + h : Nat) : Int) := Int.gcd_dvd_right ..
  generalize ((Int.gcd h (r + h : Nat) : Nat) : Int) = g at *
  have p1 := Int.ediv_nonneg (show (0 : Int) ≤ h by omega) (Int.le_of_lt g0)
  have p2 : 0 < ((r + h : Nat) : Int) / g := Int.ediv_pos_of_pos_of_dvd (by omega) (Int.le_of_lt g0) d1
  have p3 : (h : Int) / g ≤ h := Int.ediv_le_self _ (by omega)
  have p4 : ((r + h : Nat) : Int) / g ≤ ((r + h : Nat) : Int) := Int.ediv_le_self _ (by omega)
  exact ⟨⟨p1, p2, by decide, by decide, by omega, by omega, by decide, by decide⟩, Int.ediv_le_ediv g0 (by omega)⟩
theorem lleast_gen {x y s t : D} {w : List Nat} (h1 : gAdd x y = .val s) (h2 : gGt s (.int 0) = .val (.bl true)) (h3 : f__law_lowest [y, s] = .ret (.imm t)) (h4 : f__law_line [t, .tup [.int 0, .int 1], s] = .ret (.imm (.str w))) : f__law_least [x, y] = .ret (.imm (.str w)) := by
  simp [f__law_least, b__law_least, runP, FO.of, clo, sRet, sIf, tBool, sC2, sVar, sC, getc, h1, orV, h2, sCallP, dCons, dNil, frz, h3, h4, sTup, lim_def]
theorem pleast_gen {x y s t : D} {w : List Nat} (h1 : gAdd x y = .val s) (h2 : gEq s (.int 0) = .val (.bl false)) (h3 : f_lowest [y, s] = .ret (.imm t)) (h4 : f_line_by [t, .tup [.int 0, .int 1], s] = .ret (.imm (.str w))) : f_least_by [x, y] = .ret (.imm (.str w)) := by
  simp [f_least_by, b_least_by, runP, FO.of, clo, sRet, sIfS, sSeq, sSkip, tBool, sC2, sR2, sVar, sC, getc, getv, h1, orV, h2, sCallP, dCons, dNil, frz, h3, h4, sTup, lim_def]
theorem least_gen {x y s : D} {w : List Nat} (h1 : gAdd x y = .val s) (h2 : gGt s (.int 24) = .val (.bl false)) (h3 : f_check_size [x, .int 24] = .ret (.imm .non)) (h4 : f_check_size [y, .int 24] = .ret (.imm .non)) (h5 : f_least_by [x, y] = .ret (.imm (.str w))) : f_least_line [x, y] = .ret (.imm (.str w)) := by
  simp [f_least_line, b_least_line, runP, FO.of, clo, sRet, sIfS, sSeq, sSkip, sDrop, tBool, sC2, sVar, sC, getc, h1, orV, h2, sCallP, dCons, dNil, frz, h3, h4, h5]
theorem lleast_ok {r h : Nat} (hs : r + h ≤ 24) : f__law_least [.int r, .int h] = .ret (.imm (.str (leastW r h))) := by
  by_cases h0 : r + h = 0
  · have hr : r = 0 := by omega
    have hh : h = 0 := by omega
    subst hr hh
    rfl
  · obtain ⟨l, hab⟩ := limL (r := r) (h := h) (by omega) hs
    have e1 : leastW r h = lineW ((h : Int) / Int.gcd h (r + h : Nat)) (((r + h : Nat) : Int) / Int.gcd h (r + h : Nat)) 0 1 (r + h) := by
      unfold leastW; rw [if_neg h0]
    rw [e1]
    refine lleast_gen (s := .int ((r + h : Nat) : Int)) (by simp [gAdd]) ?_ (llow_ok (by omega) (by omega) (by omega)) (lline_ok l hab hs)
    have : (0 : Int) < ((r + h : Nat) : Int) := by omega
    simp only [gGt, this, decide_true]
theorem pleast_ok {r h : Nat} (hs : r + h ≤ 24) : f_least_line [.int r, .int h] = .ret (.imm (.str (leastW r h))) := by
  by_cases h0 : r + h = 0
  · have hr : r = 0 := by omega
    have hh : h = 0 := by omega
    subst hr hh
    rfl
  · obtain ⟨l, hab⟩ := limL (r := r) (h := h) (by omega) hs
    have e1 : leastW r h = lineW ((h : Int) / Int.gcd h (r + h : Nat)) (((r + h : Nat) : Int) / Int.gcd h (r + h : Nat)) 0 1 (r + h) := by
      unfold leastW; rw [if_neg h0]
    rw [e1]
    refine least_gen (s := .int ((r + h : Nat) : Int)) (by simp [gAdd]) ?_ (size_ok (by omega) (by omega)) (size_ok (by omega) (by omega)) (pleast_gen (s := .int ((r + h : Nat) : Int)) (by simp [gAdd]) ?_ (plow_ok (by omega) (by omega) (by omega)) (line_ok l hs))
    · have : ¬ (24 : Int) < ((r + h : Nat) : Int) := by omega
      simp only [gGt, this, decide_false]
    · have : (((r + h : Nat) : Int) == 0) = false := by rw [beq_eq_false_iff_ne]; omega
      simp only [gEq, pur, dep, and_self, Nat.min_self, Nat.zero_le, if_true, eqv, this]
theorem leastW_len {r h : Nat} : (leastW r h).length = r + h := by
  unfold leastW
  by_cases h0 : r + h = 0
  · rw [if_pos h0, h0]; rfl
  · rw [if_neg h0, lineW_len]
end K81

set_option Elab.async false
set_option linter.all false
set_option autoImplicit false
set_option maxRecDepth 100000
set_option maxHeartbeats 4000000
namespace K81
open PySem PySem.Spec PyProof.Rows L2 TL

theorem lineW_succ {a b c d : Int} {n : Nat} : lineW a b c d (n + 1) = lineW a b c d n ++ [if ht a b c d (n : Int) < ht a b c d ((n : Int) + 1) then 98 else 97] := by
  simp [lineW, List.range_succ]
theorem lineW_count {a b c d : Int} (l : Lim a b c d) (hab : a ≤ b) : ∀ n : Nat, ((lineW a b c d n).count 98 : Int) = ht a b c d n - ht a b c d 0
  | 0 => by simp [lineW]
  | n + 1 => by
    have ih := lineW_count l hab n
    have e1 : ((n + 1 : Nat) : Int) = (n : Int) + 1 := by omega
    rw [lineW_succ, List.count_append, e1]
    have st := ht_step (k := (n : Int)) (c := c) l.a0 hab l.b0 l.d0
    by_cases h : ht a b c d (n : Int) < ht a b c d ((n : Int) + 1)
    · rw [if_pos h]
      have : List.count 98 [98] = 1 := rfl
      rw [this]; omega
    · rw [if_neg h]
      have : List.count 98 [97] = 0 := rfl
      rw [this]; omega
theorem leastW_count {r h : Nat} (hs : r + h ≤ 24) : (leastW r h).count 98 = h := by
  unfold leastW
  by_cases h0 : r + h = 0
  · rw [if_pos h0]; simp; omega
  · rw [if_neg h0]
    obtain ⟨l, hab⟩ := limL (r := r) (h := h) (by omega) hs
    have q := lineW_count l hab (r + h)
    obtain ⟨g0, g1, _⟩ := gcd_bd (x := (h : Int)) (y := ((r + h : Nat) : Int)) (by omega) (by omega)
    have d1 : ((Int.gcd h (r + h : Nat) : Nat) : Int) ∣ ((r + h : Nat) : Int) := Int.gcd_dvd_right ..
    have d2 : ((Int.gcd h (r + h : Nat) : Nat) : Int) ∣ (h : Int) := Int.gcd_dvd_left ..
    generalize ((Int.gcd h (r + h : Nat) : Nat) : Int) = g at *
    have e1 : ht ((h : Int) / g) (((r + h : Nat) : Int) / g) 0 1 ((r + h : Nat) : Int) = h := by
      unfold ht
      obtain ⟨u, hu⟩ := d1
      obtain ⟨v, hv⟩ := d2
      rw [hu, hv, Int.mul_ediv_cancel_left _ (by omega), Int.mul_ediv_cancel_left _ (by omega)]
      have hu0 : 0 < u := by
        have := l.b0
        rw [hu, Int.mul_ediv_cancel_left _ (by omega)] at this
        exact this
      rw [Int.mul_one, Int.mul_one, Int.zero_mul, Int.add_zero, Int.mul_comm g u, Int.mul_assoc, Int.mul_ediv_cancel_left _ (by omega)]
    have e0 : ht ((h : Int) / g) (((r + h : Nat) : Int) / g) 0 1 0 = 0 := by
      unfold ht; simp
    rw [e1, e0] at q
    omega
theorem low_gcd {x y : Int} (hy : 0 < y) : Int.gcd (x / Int.gcd x y) (y / Int.gcd x y) = 1 := by
  apply Int.gcd_ediv_gcd_ediv_gcd
  exact Int.gcd_pos_of_ne_zero_right x (by omega)
theorem low_lim {x y : Int} (hx : 0 ≤ x) (hy : 0 < y) (hxy : x ≤ y) (h2 : y ≤ 9) : 0 ≤ x / Int.gcd x y ∧ 0 < y / Int.gcd x y ∧ x / Int.gcd x y ≤ y / Int.gcd x y ∧ y / Int.gcd x y ≤ 9 ∧ (x < y → x / Int.gcd x y < y / Int.gcd x y) := by
  obtain ⟨g0, g1, _⟩ := gcd_bd (x := x) (y := y) hy (by omega)
  have d1 : ((Int.gcd x y : Nat) : Int) ∣ y := Int.gcd_dvd_right ..
  have d2 : ((Int.gcd x y : Nat) : Int) ∣ x := Int.gcd_dvd_left ..
  generalize ((Int.gcd x y : Nat) : Int) = g at *
  have p1 := Int.ediv_nonneg hx (Int.le_of_lt g0)
  have p2 : 0 < y / g := Int.ediv_pos_of_pos_of_dvd hy (Int.le_of_lt g0) d1
  have p4 : y / g ≤ y := Int.ediv_le_self _ (by omega)
  have p5 : x / g ≤ y / g := Int.ediv_le_ediv g0 hxy
  refine ⟨p1, p2, p5, by omega, fun h => ?_⟩
  have e1 := Int.mul_ediv_cancel' d1
  have e2 := Int.mul_ediv_cancel' d2
  by_cases q : x / g = y / g
  · rw [← e1, ← e2, q] at h; omega
  · omega
theorem drawn_ok {n : Nat} {p : List D} {m : Nat} (h : PurseOk n p) (hn : n + 4 < 1000000) (hm : m ≤ 24) : ∃ a b c d p', f__law_drawn_line p [.int m] = .ret (.imm (.tup [.tup [.int a, .int b], .tup [.int c, .int d], .str (lineW a b c d m)])) p' ∧ Lim a b c d ∧ a ≤ b ∧ c < d ∧ Int.gcd a b = 1 ∧ Int.gcd c d = 1 ∧ PurseOk (n + 4) p' := by
  obtain ⟨t1, p1, h1, a1, b1, q1⟩ := draw_ok h (by omega) (many := 9) (by decide) (by decide)
  obtain ⟨t2, p2, h2, a2, b2, q2⟩ := draw_ok q1 (by omega) (many := 1 + t1 + 1) (by omega) (by omega)
  obtain ⟨t3, p3, h3, a3, b3, q3⟩ := draw_ok q2 (by omega) (many := 9) (by decide) (by decide)
  obtain ⟨t4, p4, h4, a4, b4, q4⟩ := draw_ok q3 (by omega) (many := 1 + t3) (by omega) (by omega)
  have L1 := llow_ok (x := t2) (y := 1 + t1) a2 (by omega) (by omega)
  have L2 := llow_ok (x := t4) (y := 1 + t3) a4 (by omega) (by omega)
  obtain ⟨u1, u2, u3, u4, _⟩ := low_lim (x := t2) (y := 1 + t1) a2 (by omega) (by omega) (by omega)
  obtain ⟨v1, v2, v3, v4, v5⟩ := low_lim (x := t4) (y := 1 + t3) a4 (by omega) (by omega) (by omega)
  have l : Lim (t2 / Int.gcd t2 (1 + t1)) ((1 + t1) / Int.gcd t2 (1 + t1)) (t4 / Int.gcd t4 (1 + t3)) ((1 + t3) / Int.gcd t4 (1 + t3)) := ⟨u1, u2, v1, v2, by omega, by omega, by omega, by omega⟩
  have ll := lline_ok l u3 hm
  have g1 := low_gcd (x := t2) (y := 1 + t1) (by omega)
  have g2 := low_gcd (x := t4) (y := 1 + t3) (by omega)
  refine ⟨_, _, _, _, p4, ?_, l, u3, v5 (by omega), g1, g2, q4⟩
  generalize (.int (m : Int) : D) = M at *
  simp [f__law_drawn_line, b__law_drawn_line, runP, runG, FO.of, FG.of, clo, own0, sSeq, sSkip, sAsg, sAsgO, sFrz, sIfS, sRet, sRetN, sDrop, sSet, sAugS, sAug, sPar, sPar3, sAsgT, tgN, tgT, tgCons, tgNil, eB, sVar, sOwn, sC, sC1, sR1, sC2, sR2, aNil, aCons, sCn, sRn, sCm, isTy, tTru, truth, tAn, tOr', tNo, tBool, sIf, sAn, sOr, sNo, dNil, dCons, frz, sLst, sTup, oNone, oSome, sSl, sChn, sIsa, sIsaLT, isaT, isaTy, tyOf, sCallP, sCallK, sCallG, sCallF, sPop, sApp, pick, getc, getv, getcs, getvs, Sl.get, orV, one, two, sFor, sWhile, sIt, itemsL, itemsT, itemsS, bYes, gAdd, TL.gSub, gMul, gDiv, gMod, gPow, gNeg, gLt, gLe, gGt, gGe, gEq, gNe, gIx, gLen, gInt, gAbs, gSum, gIn, gNotIn, gIs, gIsNot, isNone, isBl, atI, ixN, h1, h2, h3, h4, L1, L2, ll, lim_def]
end K81

set_option Elab.async false
set_option linter.all false
set_option autoImplicit false
set_option maxRecDepth 100000
set_option maxHeartbeats 4000000
namespace K81
open PySem PySem.Spec PyProof.Rows L2 TL

theorem pick_ok {n : Nat} {p : List D} {xs : List D} (h : PurseOk n p) (hn : n < 1000000) (h0 : 0 < xs.length) (h1 : xs.length < 1000) : ∃ x p', x ∈ xs ∧ f__law_pick p [.lst xs] = .ret (.imm x) p' ∧ PurseOk (n + 1) p' := by
  obtain ⟨t, p', e, a, b, q⟩ := draw_ok h hn (many := (xs.length : Int)) (by omega) (by omega)
  obtain ⟨k, rfl⟩ := Int.eq_ofNat_of_zero_le a
  have hk : k < xs.length := by omega
  have ei : gIx (.lst xs) (.int (k : Int)) = .val xs[k] := by
    have z : atI xs (k : Int) = some xs[k] := atI_nat (List.getElem?_eq_getElem hk)
    simp only [gIx, z]
  refine ⟨xs[k], p', List.getElem_mem hk, ?_, q⟩
  have el : gLen (.lst xs) = .val (.int (xs.length : Int)) := rfl
  generalize (xs.length : Int) = m at *
  generalize (k : Int) = z at *
  simp [f__law_pick, b__law_pick, runG, FG.of, clo, own0, sRet, sC2, sVar, sCallG, dCons, dNil, sRn, aCons, aNil, getvs, getv, one, el, orV, frz, e, getc, ei]
theorem same_str (k : Nat) (a : List Nat) : f__law_same (k + 1) [.str a, .str a] = .ret (.imm (.bl true)) := by
  simp [f__law_same, b__law_same, runP, runG, FO.of, FG.of, clo, own0, sSeq, sSkip, sAsg, sAsgO, sFrz, sIfS, sRet, sRetN, sDrop, sSet, sAugS, sAug, sPar, sPar3, sAsgT, tgN, tgT, tgCons, tgNil, eB, sVar, sOwn, sC, sC1, sR1, sC2, sR2, aNil, aCons, sCn, sRn, sCm, isTy, tTru, truth, tAn, tOr', tNo, tBool, sIf, sAn, sOr, sNo, dNil, dCons, frz, sLst, sTup, oNone, oSome, sSl, sChn, sIsa, sIsaLT, isaT, isaTy, tyOf, sCallP, sCallK, sCallG, sCallF, sPop, sApp, pick, getc, getv, getcs, getvs, Sl.get, orV, one, two, sFor, sWhile, sIt, itemsL, itemsT, itemsS, bYes, gAdd, TL.gSub, gMul, gDiv, gMod, gPow, gNeg, gLt, gLe, gGt, gGe, gEq, gNe, gIx, gLen, gInt, gAbs, gSum, gIn, gNotIn, gIs, gIsNot, isNone, isBl, atI, ixN, eqv, pur, dep]
theorem compL_all {vs : List Nat} {t : D → TL.Env → Option TL.Env} {c : TL.SB} {f : SF} {env : TL.Env} {F : D → D} : ∀ (ds acc : List D), acc.length + ds.length ≤ lim →
    (∀ d ∈ ds, ∃ e1 x, t d (wipeE env vs) = some e1 ∧ c e1 = .ok true e1 ∧ f e1 = .ok x e1 ∧ frz x e1 = .ok (F d) e1 ∧ restE env e1 vs = env) → compL vs t c f ds env acc = .ok (acc ++ ds.map F) env
  | [], acc, _, _ => by simp [compL]
  | d :: ds, acc, hl, h => by
    obtain ⟨e1, x, h1, h2, h3, h4, h5⟩ := h d (by simp)
    simp only [List.length_cons] at hl
    simp only [compL, h1, h2, h3, h4, h5]
    rw [if_pos (by omega), compL_all ds (acc ++ [F d]) (by simp; omega) fun d' hd => h d' (by simp [hd])]
    simp
theorem same_strs (k : Nat) (l : List (List Nat)) (hl : l.length < 1000) : f__law_same (k + 2) [.lst (l.map .str), .lst (l.map .str)] = .ret (.imm (.bl true)) := by
  have z : ∀ e : TL.Env, e[0]? = some (.imm (.lst (l.map .str))) → e[1]? = some (.imm (.lst (l.map .str))) → sZipA (sVar 0) (sVar 1) e = .ok ((l.map .str).zipWith (fun a b => .tup [a, b]) (l.map .str)) e := fun e h0 h1 => by
    simp [sZipA, sVar, h0, h1, frz, itemsL]
  have lc : ∀ s2 : Sl, sLc [3, 4] (sZipA (sVar 0) (sVar 1)) (tgT 2 (tgCons (tgN 3) (tgCons (tgN 4) (tgNil)))) (bYes) (sCallP 2 (f__law_same (k + 1)) (dCons (sVar 3) (dCons (sVar 4) (dNil)))) [.imm (.lst (l.map .str)), .imm (.lst (l.map .str)), s2, .non, .non] =
      .ok (.cell (((l.map D.str).zipWith (fun a b => D.tup [a, b]) (l.map D.str)).map fun _ => .bl true)) [.imm (.lst (l.map .str)), .imm (.lst (l.map .str)), s2, .non, .non] := fun s2 => by
    have q := compL_all (vs := [3, 4]) (t := tgT 2 (tgCons (tgN 3) (tgCons (tgN 4) (tgNil)))) (c := bYes) (f := sCallP 2 (f__law_same (k + 1)) (dCons (sVar 3) (dCons (sVar 4) (dNil)))) (env := [.imm (.lst (l.map .str)), .imm (.lst (l.map .str)), s2, .non, .non]) (F := fun _ => .bl true) ((l.map D.str).zipWith (fun a b => D.tup [a, b]) (l.map D.str)) [] (by simp [lim_def]; omega) (fun d hd => by
      obtain ⟨i, hi⟩ := List.getElem?_of_mem hd
      rw [List.getElem?_zipWith] at hi
      cases ha : (l.map D.str)[i]? with
      | none => rw [ha] at hi; cases hi
      | some a =>
        rw [ha] at hi
        cases hi
        rw [List.getElem?_map, Option.map_eq_some_iff] at ha
        obtain ⟨w, _, rfl⟩ := ha
        exact ⟨[.imm (.lst (l.map .str)), .imm (.lst (l.map .str)), s2, .imm (.str w), .imm (.str w)], .imm (.bl true), by simp [wipeE, tgT, tgCons, tgN, tgNil], rfl, by simp [sCallP, dCons, dNil, sVar, frz, same_str], rfl, by simp [restE]⟩)
    simp only [sLc, z [.imm (.lst (l.map .str)), .imm (.lst (l.map .str)), s2, .non, .non] rfl rfl, Out.bind_ok, q]
    rfl
  have al : ∀ m : List D, blsD (m.map ((fun _ => D.bl true) ∘ fun a => D.tup [a, a])) = some (m.map fun _ => true) := fun m => by
    induction m with
    | nil => rfl
    | cons a m ih => simp only [List.map_cons, Function.comp, blsD] at ih ⊢; rw [ih]; rfl
  generalize l.map D.str = L at *
  have e0 : f__law_same (k + 2) [.lst L, .lst L] = FO.of (b__law_same (f__law_same (k + 1)) [.imm (.lst L), .imm (.lst L), .non, .non, .non]) := rfl
  rw [e0]
  have lenE : gEq (.int (L.length : Int)) (.int (L.length : Int)) = .val (.bl true) := by
    generalize (L.length : Int) = m
    simp [gEq, pur, dep, eqv]
  have gl : gLen (.lst L) = .val (.int (L.length : Int)) := rfl
  simp [b__law_same, sSeq, sIfS, sSkip, sRet, tBool, sR2, sVar, sC, getv, gIs, isNone, isBl, orV, sIsaLT, tTru, truth, isaT, isaTy, tyOf, sAsg, sIf, sIsa, frz, sAn, sRn, aCons, aNil, getvs, one, gl, lenE, sCn, lc, getcs, getc, gAll, blsL, al, FO.of, clo]
/-- the turned words -/
def turnedW (w : List Nat) : List (List Nat) := (List.range w.length).map fun k => w.drop k ++ w.take k
theorem cut_from {α : Type} (xs : List α) (k : Nat) (h : k ≤ xs.length) : cut xs (some (k : Int)) none = xs.drop k := by
  unfold cut
  rw [HT.sIx_nat, HT.sIx_none, Nat.min_eq_left h]
  exact List.take_of_length_le (by simp)
theorem cut_to {α : Type} (xs : List α) (k : Nat) (h : k ≤ xs.length) : cut xs none (some (k : Int)) = xs.take k := by
  unfold cut
  rw [HT.sIx_nat, HT.sIx_none, Nat.min_eq_left h]
  simp
theorem cut_mid {α : Type} (xs : List α) (k m : Nat) (h : k + m ≤ xs.length) : cut xs (some (k : Int)) (some ((k : Int) + m)) = (xs.drop k).take m := by
  unfold cut
  have e : (k : Int) + m = ((k + m : Nat) : Int) := by omega
  rw [e, HT.sIx_nat, HT.sIx_nat, Nat.min_eq_left h, Nat.min_eq_left (by omega)]
  congr 1; omega
theorem turned_ok (w : List Nat) (hw : w.length < 1000) : f__law_turned [.str w] = .ret (.cell ((turnedW w).map .str)) := by
  have gl : gLen (.str w) = .val (.int (w.length : Int)) := by
    simp only [gLen, lim_def]; rw [if_pos (by omega)]
  have rg : sRng1 (sRn (one gLen) (aCons (sVar 0) (aNil))) [.imm (.str w), .non] = .ok ((List.range w.length).map fun k : Nat => .int k) [.imm (.str w), .non] :=
    rng1_ok (by simp [sRn, aCons, aNil, sVar, getvs, getv, one, gl, orV]) (by omega)
  have q := sLc_map (v := 1) (g := sRng1 (sRn (one gLen) (aCons (sVar 0) (aNil)))) (f := sC2 gAdd (sSl (sVar 0) (oSome (sVar 1)) (oNone)) (sSl (sVar 0) (oNone) (oSome (sVar 1)))) (env := [.imm (.str w), .non]) (ds := (List.range w.length).map fun k : Nat => .int k)
    (mI fun k => .str (cut w (some k) none ++ cut w none (some k))) rg (by simp) rfl (by rw [List.length_map, List.length_range, lim_def]; omega) (fun d hd => by
      obtain ⟨k, hk, rfl⟩ := List.mem_map.mp hd
      have hk := List.mem_range.mp hk
      have l1 := cut_len w (some (k : Int)) none
      have l2 := cut_len w none (some (k : Int))
      have s1 : gSl (.str w) (some (k : Int)) none = .val (.str (cut w (some (k : Int)) none)) := by simp only [gSl, lim_def]; rw [if_pos (by omega)]
      have s2 : gSl (.str w) none (some (k : Int)) = .val (.str (cut w none (some (k : Int)))) := by simp only [gSl, lim_def]; rw [if_pos (by omega)]
      have s3 : gAdd (.str (cut w (some (k : Int)) none)) (.str (cut w none (some (k : Int)))) = .val (.str (cut w (some (k : Int)) none ++ cut w none (some (k : Int)))) := by simp only [gAdd, lim_def]; rw [if_pos (by omega)]
      refine ⟨.imm (.str (cut w (some (k : Int)) none ++ cut w none (some (k : Int)))), ?_, rfl⟩
      generalize (k : Int) = z at *
      simp [sC2, sSl, sVar, oSome, oNone, getc, s1, s2, orV, s3])
  rw [mI_range] at q
  have e0 : f__law_turned [.str w] = FO.of (b__law_turned [.imm (.str w), .non]) := rfl
  have e1 : ((List.range w.length).map fun k : Nat => D.str (cut w (some (k : Int)) none ++ cut w none (some (k : Int)))) = (turnedW w).map .str := by
    unfold turnedW
    rw [List.map_map]
    apply List.map_congr_left
    intro k hk
    have hk := List.mem_range.mp hk
    simp only [Function.comp, cut_from w k (by omega), cut_to w k (by omega)]
  rw [e1] at q
  rw [e0]
  simp only [b__law_turned, sRet, q, eB_ok, FO.of, clo]
end K81

set_option Elab.async false
set_option linter.all false
set_option autoImplicit false
set_option maxRecDepth 100000
set_option maxHeartbeats 4000000
namespace K81
open PySem PySem.Spec PyProof.Rows L2 TL

theorem loop_all {t : D → TL.Env → Option TL.Env} {b : SS} (Inv : TL.Env → Prop) (p : D → Bool) : ∀ (ds : List D) (e : TL.Env), Inv e →
    (∀ d ∈ ds, ∀ e, Inv e → ∃ e1, t d e = some e1 ∧ (p d = true → ∃ e2, b e1 = .nx e2 ∧ Inv e2) ∧ (p d = false → ∃ e2, b e1 = .rt (.imm (.bl false)) e2)) →
    (ds.all p = true ∧ ∃ e', loopF t b ds e = .nx e' ∧ Inv e') ∨ (ds.all p = false ∧ ∃ e', loopF t b ds e = .rt (.imm (.bl false)) e')
  | [], e, h, _ => .inl ⟨rfl, e, rfl, h⟩
  | d :: ds, e, h, hb => by
    obtain ⟨e1, h1, h2, h3⟩ := hb d (by simp) e h
    cases hp : p d with
    | false =>
      obtain ⟨e2, h4⟩ := h3 hp
      exact .inr ⟨by simp [hp], e2, by simp only [loopF, h1, h4]⟩
    | true =>
      obtain ⟨e2, h4, h5⟩ := h2 hp
      rcases loop_all Inv p ds e2 h5 fun d' hd => hb d' (by simp [hd]) with ⟨g1, e', g2, g3⟩ | ⟨g1, e', g2⟩
      · exact .inl ⟨by simp [hp, g1], e', by simp only [loopF, h1, h4, g2], g3⟩
      · exact .inr ⟨by simp [hp, g1], e', by simp only [loopF, h1, h4, g2]⟩
def cntsI (w : List Nat) (size : Nat) : List Int := (List.range (w.length - size + 1)).map fun k : Nat => ((((w.drop k).take size).count 98 : Nat) : Int)
def balS (w : List Nat) (size : Nat) : Bool := match maxI (cntsI w size), minI (cntsI w size) with | some a, some b => !decide (1 < a - b) | _, _ => false
def balB (w : List Nat) : Bool := (List.range (w.length - 2)).all fun j => balS w (j + 2)
theorem cnts_ok (w : List Nat) (size : Nat) (h : size ≤ w.length) (hw : w.length < 1000) (s2 : Sl) : sLc [3] (sRng1 (sC2 gAdd (sC2 TL.gSub (sRn (one gLen) (aCons (sVar 0) (aNil))) (sVar 1)) (sC (.int 1)))) (tgN 3) (bYes) (sCm "str" gCount (sSl (sVar 0) (oSome (sVar 3)) (oSome (sC2 gAdd (sVar 3) (sVar 1)))) (aCons (sC (.str [98])) (aNil))) [.imm (.str w), .imm (.int size), s2, .non] =
    .ok (.cell ((cntsI w size).map .int)) [.imm (.str w), .imm (.int size), s2, .non] := by
  have gl : gLen (.str w) = .val (.int (w.length : Int)) := by
    simp only [gLen, lim_def]; rw [if_pos (by omega)]
  have e1 : ((w.length - size + 1 : Nat) : Int) = (w.length : Int) - size + 1 := by omega
  have rg : sRng1 (sC2 gAdd (sC2 TL.gSub (sRn (one gLen) (aCons (sVar 0) (aNil))) (sVar 1)) (sC (.int 1))) [.imm (.str w), .imm (.int size), s2, .non] = .ok ((List.range (w.length - size + 1)).map fun k : Nat => .int k) [.imm (.str w), .imm (.int size), s2, .non] :=
    rng1_ok (by
      rw [e1]
      simp [sC2, sRn, aCons, aNil, sVar, getvs, getv, one, gl, orV, getc, TL.gSub, sC, gAdd]) (by omega)
  have q := sLc_map (v := 3) (g := sRng1 (sC2 gAdd (sC2 TL.gSub (sRn (one gLen) (aCons (sVar 0) (aNil))) (sVar 1)) (sC (.int 1)))) (f := sCm "str" gCount (sSl (sVar 0) (oSome (sVar 3)) (oSome (sC2 gAdd (sVar 3) (sVar 1)))) (aCons (sC (.str [98])) (aNil))) (env := [.imm (.str w), .imm (.int size), s2, .non]) (ds := (List.range (w.length - size + 1)).map fun k : Nat => .int k)
    (mI fun k => .int (((cut w (some k) (some (k + size))).count 98 : Nat) : Int)) rg (by simp) rfl (by rw [List.length_map, List.length_range, lim_def]; omega) (fun d hd => by
      obtain ⟨k, hk, rfl⟩ := List.mem_map.mp hd
      have s1 : ∀ z u : Int, gSl (.str w) (some z) (some u) = .val (.str (cut w (some z) (some u))) := fun z u => by simp only [gSl, lim_def]; rw [if_pos (by omega)]
      refine ⟨.imm (.int (((cut w (some (k : Int)) (some ((k : Int) + size))).count 98 : Nat) : Int)), ?_, rfl⟩
      generalize (k : Int) = z at *
      generalize (size : Int) = u at *
      simp [sCm, sSl, sVar, oSome, sC2, getc, gAdd, orV, s1, aCons, aNil, sC, getv, isTy, getcs, gCount, one, gCount1])
  rw [mI_range] at q
  rw [q]
  congr 2
  unfold cntsI
  rw [List.map_map]
  apply List.map_congr_left
  intro k hk
  have hk := List.mem_range.mp hk
  simp only [Function.comp, cut_mid w k size (by omega)]
theorem ints_map : ∀ l : List Int, intsD (l.map .int) = some l
  | [] => rfl
  | a :: l => by simp [intsD, ints_map l]
theorem bal_step {w : List Nat} {l : List Int} {a b : Int} {s1 s2 s3 : Sl} {cmp : SF} (hc : cmp [.imm (.str w), s1, s2, s3] = .ok (.cell (l.map .int)) [.imm (.str w), s1, s2, s3]) (ha : maxI l = some a) (hb : minI l = some b) :
    (sSeq (sAsg 2 cmp) (sIfS (tBool (sC2 gGt (sC2 TL.gSub (sCn gMax (aCons (sVar 2) (aNil))) (sCn gMin (aCons (sVar 2) (aNil)))) (sC (.int 1)))) (sRet (sC (.bl false))) (sSkip))) [.imm (.str w), s1, s2, s3] = if 1 < a - b then .rt (.imm (.bl false)) [.imm (.str w), s1, .imm (.lst (l.map .int)), s3] else .nx [.imm (.str w), s1, .imm (.lst (l.map .int)), s3] := by
  have e : intsL (.lst (l.map .int)) = some l := ints_map l
  have m1 : gMax [.lst (l.map .int)] = .val (.int a) := by simp only [gMax, e, gMaxL, ha]
  have m2 : gMin [.lst (l.map .int)] = .val (.int b) := by simp only [gMin, e, gMinL, hb]
  generalize l.map D.int = L at *
  by_cases h : 1 < a - b
  · rw [if_pos h]
    simp [sSeq, sAsg, hc, frz, sIfS, tBool, sC2, sCn, aCons, aNil, sVar, getcs, getc, m1, m2, orV, TL.gSub, sC, gGt, h, sRet, eB]
  · rw [if_neg h]
    simp [sSeq, sAsg, hc, frz, sIfS, tBool, sC2, sCn, aCons, aNil, sVar, getcs, getc, m1, m2, orV, TL.gSub, sC, gGt, h, sSkip, eB]
theorem bal_ok (w : List Nat) (hw : w.length < 1000) : f__law_balanced [.str w] = .ret (.imm (.bl (balB w))) := by
  have gl : gLen (.str w) = .val (.int (w.length : Int)) := by
    simp only [gLen, lim_def]; rw [if_pos (by omega)]
  have rg : sRng2 (sC (.int 2)) (sRn (one gLen) (aCons (sVar 0) (aNil))) [.imm (.str w), .non, .non, .non] = .ok ((List.range (w.length - 2)).map fun k : Nat => .int (2 + k)) [.imm (.str w), .non, .non, .non] := by
    have r := rng2_int (f := sC (.int 2)) (g := sRn (one gLen) (aCons (sVar 0) (aNil))) (e := [.imm (.str w), .non, .non, .non]) (m := 2) (n := (w.length : Int)) rfl (by simp [sRn, aCons, aNil, sVar, getvs, getv, one, gl, orV]) (inR_small (by decide) (by decide)) (inR_small (by omega) (by omega))
    have : ((w.length : Int) - 2).toNat = w.length - 2 := by omega
    rw [this] at r
    exact r
  have q := loop_all (t := tgN 1) (b := sSeq (sAsg 2 (sLc [3] (sRng1 (sC2 gAdd (sC2 TL.gSub (sRn (one gLen) (aCons (sVar 0) (aNil))) (sVar 1)) (sC (.int 1)))) (tgN 3) (bYes) (sCm "str" gCount (sSl (sVar 0) (oSome (sVar 3)) (oSome (sC2 gAdd (sVar 3) (sVar 1)))) (aCons (sC (.str [98])) (aNil))))) (sIfS (tBool (sC2 gGt (sC2 TL.gSub (sCn gMax (aCons (sVar 2) (aNil))) (sCn gMin (aCons (sVar 2) (aNil)))) (sC (.int 1)))) (sRet (sC (.bl false))) (sSkip)))
    (fun e => ∃ s1 s2, e = [.imm (.str w), s1, s2, .non]) (fun d => match d with | .int z => balS w z.toNat | _ => false) ((List.range (w.length - 2)).map fun k : Nat => .int (2 + k)) [.imm (.str w), .non, .non, .non] ⟨_, _, rfl⟩ (fun d hd e he => by
      obtain ⟨s1, s2, rfl⟩ := he
      obtain ⟨k, hk, rfl⟩ := List.mem_map.mp hd
      have hk := List.mem_range.mp hk
      have e2 : (2 : Int) + (k : Int) = ((k + 2 : Nat) : Int) := by omega
      rw [e2]
      have c := cnts_ok w (k + 2) (by omega) hw s2
      have ne : ∃ a b, maxI (cntsI w (k + 2)) = some a ∧ minI (cntsI w (k + 2)) = some b := by
        cases hl : cntsI w (k + 2) with
        | nil =>
          have := congrArg List.length hl
          simp [cntsI] at this
        | cons a l => exact ⟨_, _, rfl, rfl⟩
      obtain ⟨a, b, ha, hb⟩ := ne
      have st := bal_step c ha hb
      refine ⟨_, rfl, fun hp => ?_, fun hp => ?_⟩
      · have hp : balS w (k + 2) = true := hp
        simp only [balS, ha, hb, Bool.not_eq_true', decide_eq_false_iff_not] at hp
        rw [if_neg hp] at st
        exact ⟨_, st, _, _, rfl⟩
      · have hp : balS w (k + 2) = false := hp
        simp only [balS, ha, hb, Bool.not_eq_false', decide_eq_true_iff] at hp
        rw [if_pos hp] at st
        exact ⟨_, st⟩)
  have ea : ((List.range (w.length - 2)).map fun k : Nat => D.int (2 + k)).all (fun d => match d with | .int z => balS w z.toNat | _ => false) = balB w := by
    rw [List.all_map]
    unfold balB
    congr 1
    funext k
    have : ((2 : Int) + (k : Int)).toNat = k + 2 := by omega
    simp only [Function.comp, this]
  rw [ea] at q
  have e0 : f__law_balanced [.str w] = FO.of (b__law_balanced [.imm (.str w), .non, .non, .non]) := rfl
  rw [e0]
  rcases q with ⟨q1, e', q2, s1, s2, rfl⟩ | ⟨q1, e', q2⟩
  · rw [q1]
    simp only [b__law_balanced, sSeq, sFor, rg, eB_ok, q2, sRet, sC, FO.of, clo]
  · rw [q1]
    simp only [b__law_balanced, sSeq, sFor, rg, eB_ok, q2, FO.of, clo]
def wordsW : Nat → List (List Nat)
  | 0 => [[]]
  | n + 1 => (wordsW n).flatMap fun w => [w ++ [97], w ++ [98]]
theorem words_ok : ∀ n : Nat, n < 8 → f__law_words [.int n] = .ret (.imm (.lst ((wordsW n).map .str)))
  | 0, _ => by kernel_rfl
  | 1, _ => by kernel_rfl
  | 2, _ => by kernel_rfl
  | 3, _ => by kernel_rfl
  | 4, _ => by kernel_rfl
  | 5, _ => by kernel_rfl
  | 6, _ => by kernel_rfl
  | 7, _ => by kernel_rfl
  | n + 8, h => by omega
end K81

set_option Elab.async false
set_option linter.all false
set_option autoImplicit false
set_option maxRecDepth 100000
set_option maxHeartbeats 4000000
namespace K81
open PySem PySem.Spec PyProof.Rows L2 TL

def evenW (w : List Nat) : Bool := (turnedW w).all balB
def someW (r h : Nat) : List (List Nat) := (wordsW (r + h)).filter fun w => w.count 98 == h && evenW w
def chk (r h : Nat) : Bool := match someW r h with | x :: l => minS x l == leastW r h | [] => false
theorem chk_all : ∀ r < 8, ∀ h < 8, r + h < 8 → chk r h = true := by decide +kernel
theorem words_len : ∀ n : Nat, ∀ w ∈ wordsW n, w.length = n
  | 0, w, h => by
    rw [List.mem_singleton.mp h]; rfl
  | n + 1, w, h => by
    obtain ⟨u, hu, h2⟩ := List.mem_flatMap.mp h
    have ih := words_len n u hu
    rcases List.mem_cons.mp h2 with rfl | h2
    · simp [ih]
    · rw [List.mem_singleton.mp h2]; simp [ih]
theorem words_num : ∀ n : Nat, n < 8 → (wordsW n).length < 1000 := by decide +kernel
theorem purs_strs : ∀ l : List (List Nat), purs (l.map .str) = true
  | [] => rfl
  | a :: l => by simp [purs, pur, purs_strs l]
theorem deps_strs : ∀ l : List (List Nat), deps (l.map .str) = 0
  | [] => rfl
  | a :: l => by simp [deps, dep, deps_strs l]
theorem eq_nil (l : List (List Nat)) : gEq (.lst (l.map .str)) (.lst []) = .val (.bl l.isEmpty) := by
  have e : eqv (.lst (l.map .str)) (.lst []) = l.isEmpty := by cases l <;> simp [eqv, eqvs]
  simp [gEq, pur, purs_strs, purs, dep, deps_strs, deps, e]
theorem filt_str (p : List Nat → Bool) (l : List (List Nat)) : ((l.map D.str).filter fun d => match d with | .str w => p w | _ => false).map id = (l.filter p).map D.str := by
  rw [List.map_id, List.filter_map]; rfl
theorem cond_ok {s0 s1 s2 s3 s4 s5 s6 s7 s9 s10 : Sl} {h : Int} {w : List Nat} (hw : w.length < 1000) : tAn (tBool (sR2 gEq (sCm "str" gCount (sVar 11) (aCons (sC (.str [98])) (aNil))) (sVar 8))) (tBool (sR2 gEq (sLc [12] (sIt itemsL (sCallP 1 f__law_turned (dCons (sVar 11) (dNil)))) (tgN 12) (tNo (tTru (sCallP 1 f__law_balanced (dCons (sVar 12) (dNil))))) (sVar 12)) (sLst (dNil)))) [s0, s1, s2, s3, s4, s5, s6, s7, .imm (.int h), s9, s10, .imm (.str w), .non] =
    .ok (decide (((w.count 98 : Nat) : Int) = h) && evenW w) [s0, s1, s2, s3, s4, s5, s6, s7, .imm (.int h), s9, s10, .imm (.str w), .non] := by
  have tl : (turnedW w).length = w.length := by simp [turnedW]
  have q := sLc_filter (v := 12) (g := sIt itemsL (sCallP 1 f__law_turned (dCons (sVar 11) (dNil)))) (c := tNo (tTru (sCallP 1 f__law_balanced (dCons (sVar 12) (dNil))))) (f := sVar 12) (env := [s0, s1, s2, s3, s4, s5, s6, s7, .imm (.int h), s9, s10, .imm (.str w), .non]) (ds := (turnedW w).map .str)
    (fun d => match d with | .str u => !balB u | _ => false) id (by simp [sIt, sCallP, dCons, dNil, sVar, frz, turned_ok w hw, itemsL]) (by simp) rfl (by rw [List.length_map, tl, lim_def]; omega) (fun d hd => by
      obtain ⟨u, hu, rfl⟩ := List.mem_map.mp hd
      have hul : u.length < 1000 := by
        obtain ⟨k, hk, rfl⟩ := List.mem_map.mp hu
        have hk := List.mem_range.mp hk
        simp; omega
      exact ⟨by simp [tNo, tTru, sCallP, dCons, dNil, sVar, frz, bal_ok u hul, getv, truth], fun _ => ⟨.imm (.str u), by simp [sVar], rfl⟩⟩)
  rw [filt_str] at q
  have e1 : ((turnedW w).filter fun u => !balB u).isEmpty = evenW w := by
    unfold evenW
    generalize turnedW w = l
    induction l with
    | nil => rfl
    | cons a l ih =>
      cases hb : balB a with
      | true => simp [hb, ih]
      | false => simp [hb]
  have en := eq_nil ((turnedW w).filter fun u => !balB u)
  rw [e1] at en
  have ec : gEq (.int ((w.count 98 : Nat) : Int)) (.int h) = .val (.bl (decide (((w.count 98 : Nat) : Int) = h))) := by
    generalize ((w.count 98 : Nat) : Int) = z
    have e : (z == h) = decide (z = h) := by rw [Bool.eq_iff_iff, beq_iff_eq, decide_eq_true_iff]
    simp [gEq, pur, dep, eqv, e]
  have t1 : tBool (sR2 gEq (sCm "str" gCount (sVar 11) (aCons (sC (.str [98])) (aNil))) (sVar 8)) [s0, s1, s2, s3, s4, s5, s6, s7, .imm (.int h), s9, s10, .imm (.str w), .non] = .ok (decide (((w.count 98 : Nat) : Int) = h)) [s0, s1, s2, s3, s4, s5, s6, s7, .imm (.int h), s9, s10, .imm (.str w), .non] := by
    have ec' : gCount1 (.str w) (.str [98]) = .val (.int ((w.count 98 : Nat) : Int)) := rfl
    generalize ((w.count 98 : Nat) : Int) = z at *
    simp only [tBool, sR2, sCm, sVar, aCons, aNil, sC, getv, isTy, getcs, getc, gCount, one, ec', orV, ec, List.getElem?_cons_succ, List.getElem?_cons_zero, Out.bind_ok, if_true]
  have t2 : tBool (sR2 gEq (sLc [12] (sIt itemsL (sCallP 1 f__law_turned (dCons (sVar 11) (dNil)))) (tgN 12) (tNo (tTru (sCallP 1 f__law_balanced (dCons (sVar 12) (dNil))))) (sVar 12)) (sLst (dNil))) [s0, s1, s2, s3, s4, s5, s6, s7, .imm (.int h), s9, s10, .imm (.str w), .non] = .ok (evenW w) [s0, s1, s2, s3, s4, s5, s6, s7, .imm (.int h), s9, s10, .imm (.str w), .non] := by
    have z : (([] : List D).length ≤ lim) := by simp
    simp only [tBool, sR2, q, sLst, dNil, Out.bind_ok, z, if_true, getv, en, orV]
  simp only [tAn, t1, Out.bind_ok]
  cases decide (((w.count 98 : Nat) : Int) = h) with
  | true => simp only [if_true, t2, Bool.true_and]
  | false => simp only [Bool.false_eq_true, if_false, Bool.false_and]
theorem src_ok {x y z : D} {L : List D} {env : TL.Env} (h7 : env[7]? = some (.imm x)) (h8 : env[8]? = some (.imm y)) (ha : gAdd x y = .val z) (hw : f__law_words [z] = .ret (.imm (.lst L))) : sIt itemsL (sCallP 1 f__law_words (dCons (sC2 gAdd (sVar 7) (sVar 8)) (dNil))) env = .ok L env := by
  simp [sIt, sCallP, dCons, dNil, sC2, sVar, h7, h8, getc, ha, orV, frz, hw, itemsL]
theorem some_ok {s0 s1 s2 s3 s4 s5 s6 s9 s10 : Sl} {r h : Nat} (hs : r + h < 8) : sLc [11] (sIt itemsL (sCallP 1 f__law_words (dCons (sC2 gAdd (sVar 7) (sVar 8)) (dNil)))) (tgN 11) (tAn (tBool (sR2 gEq (sCm "str" gCount (sVar 11) (aCons (sC (.str [98])) (aNil))) (sVar 8))) (tBool (sR2 gEq (sLc [12] (sIt itemsL (sCallP 1 f__law_turned (dCons (sVar 11) (dNil)))) (tgN 12) (tNo (tTru (sCallP 1 f__law_balanced (dCons (sVar 12) (dNil))))) (sVar 12)) (sLst (dNil))))) (sVar 11) [s0, s1, s2, s3, s4, s5, s6, .imm (.int r), .imm (.int h), s9, s10, .non, .non] =
    .ok (.cell ((someW r h).map .str)) [s0, s1, s2, s3, s4, s5, s6, .imm (.int r), .imm (.int h), s9, s10, .non, .non] := by
  have wo := words_ok (r + h) hs
  have e1 : ((r + h : Nat) : Int) = (r : Int) + h := by omega
  rw [e1] at wo
  have q := sLc_filter (v := 11) (g := sIt itemsL (sCallP 1 f__law_words (dCons (sC2 gAdd (sVar 7) (sVar 8)) (dNil)))) (c := tAn (tBool (sR2 gEq (sCm "str" gCount (sVar 11) (aCons (sC (.str [98])) (aNil))) (sVar 8))) (tBool (sR2 gEq (sLc [12] (sIt itemsL (sCallP 1 f__law_turned (dCons (sVar 11) (dNil)))) (tgN 12) (tNo (tTru (sCallP 1 f__law_balanced (dCons (sVar 12) (dNil))))) (sVar 12)) (sLst (dNil))))) (f := sVar 11) (env := [s0, s1, s2, s3, s4, s5, s6, .imm (.int r), .imm (.int h), s9, s10, .non, .non]) (ds := (wordsW (r + h)).map .str)
    (fun d => match d with | .str w => decide (((w.count 98 : Nat) : Int) = h) && evenW w | _ => false) id (src_ok rfl rfl rfl wo) (by simp) rfl (by rw [List.length_map, lim_def]; have := words_num (r + h) hs; omega) (fun d hd => by
      obtain ⟨w, hw, rfl⟩ := List.mem_map.mp hd
      have hl := words_len (r + h) w hw
      exact ⟨cond_ok (by omega), fun _ => ⟨.imm (.str w), by simp [sVar], rfl⟩⟩)
  rw [filt_str] at q
  have e2 : ((wordsW (r + h)).filter fun w => decide (((w.count 98 : Nat) : Int) = h) && evenW w) = someW r h := by
    unfold someW
    apply List.filter_congr
    intro w _
    have : decide (((w.count 98 : Nat) : Int) = h) = (w.count 98 == h) := by
      rw [Bool.eq_iff_iff, decide_eq_true_iff, beq_iff_eq]; omega
    rw [this]
  rw [e2] at q
  exact q
end K81

set_option Elab.async false
set_option linter.all false
set_option autoImplicit false
set_option maxRecDepth 100000
set_option maxHeartbeats 4000000
namespace K81
open PySem PySem.Spec PyProof.Rows L2 TL
section
variable {s0 s2 s3 s4 s5 s6 s7 s8 s9 s10 : Sl} {p p' p'' : List D} {M X Y W R Hd N W2 T : D}
theorem stA (h : f__law_draw p [.int 25] = .ret (.imm M) p') : sAsg 3 (sCallG 2 1 f__law_draw (dCons (sC (.int 25)) (dNil))) [s0, .own p, s2, s3, s4, s5, s6, s7, s8, s9, s10, .non, .non] = .nx [s0, .own p', s2, .imm M, s4, s5, s6, s7, s8, s9, s10, .non, .non] := by
  simp [sAsg, sCallG, dCons, dNil, sC, frz, h, eB]
theorem stB (h : f__law_drawn_line p [M] = .ret (.imm (.tup [X, Y, W])) p') : sAsgT (tgT 3 (tgCons (tgN 4) (tgCons (tgN 5) (tgCons (tgN 6) (tgNil))))) (sCallG 2 1 f__law_drawn_line (dCons (sVar 3) (dNil))) [s0, .own p, s2, .imm M, s4, s5, s6, s7, s8, s9, s10, .non, .non] = .nx [s0, .own p', s2, .imm M, .imm X, .imm Y, .imm W, s7, s8, s9, s10, .non, .non] := by
  simp [sAsgT, sCallG, dCons, dNil, sVar, frz, h, eB, tgT, tgCons, tgN, tgNil]
def C3 : List D := [.tup [.int 999999998, .int 999999999], .tup [.int 1, .int 999999999], .tup [.int 499999999, .int 999999999]]
def C2 : List D := [.tup [.int 0, .int 1], .tup [.int 999999998, .int 999999999]]
abbrev bC : SS := sIfS (tBool (sR2 gEq (sVar 2) (sC (.int 0)))) (sSeq (sPar 4 5 (dCons (sCallG 2 1 f__law_pick (dCons (sLst (dCons (sTup (dCons (sC (.int 999999998)) (dCons (sC (.int 999999999)) (dNil)))) (dCons (sTup (dCons (sC (.int 1)) (dCons (sC (.int 999999999)) (dNil)))) (dCons (sTup (dCons (sC (.int 499999999)) (dCons (sC (.int 999999999)) (dNil)))) (dNil))))) (dNil))) (dCons (sCallG 2 1 f__law_pick (dCons (sLst (dCons (sTup (dCons (sC (.int 0)) (dCons (sC (.int 1)) (dNil)))) (dCons (sTup (dCons (sC (.int 999999998)) (dCons (sC (.int 999999999)) (dNil)))) (dNil)))) (dNil))) (dNil)))) (sAsg 6 (sCallP 3 f__law_line (dCons (sVar 4) (dCons (sVar 5) (dCons (sVar 3) (dNil))))))) (sSkip)
theorem stC0 (h1 : f__law_pick p [.lst C3] = .ret (.imm X) p') (h2 : f__law_pick p' [.lst C2] = .ret (.imm Y) p'') (h3 : f__law_line [X, Y, M] = .ret (.imm W)) : bC [s0, .own p, .imm (.int 0), .imm M, s4, s5, s6, s7, s8, s9, s10, .non, .non] = .nx [s0, .own p'', .imm (.int 0), .imm M, .imm X, .imm Y, .imm W, s7, s8, s9, s10, .non, .non] := by
  simp only [C3] at h1
  simp only [C2] at h2
  simp [bC, sIfS, tBool, sR2, sVar, sC, getv, gEq, pur, dep, eqv, orV, eB, sSeq, sPar, dCons, dNil, sCallG, sLst, sTup, lim_def, frz, h1, h2, sAsg, sCallP, h3]
theorem stC1 {z : Int} (h : z ≠ 0) : bC [s0, .own p, .imm (.int z), s3, s4, s5, s6, s7, s8, s9, s10, .non, .non] = .nx [s0, .own p, .imm (.int z), s3, s4, s5, s6, s7, s8, s9, s10, .non, .non] := by
  have e : (z == 0) = false := by rw [beq_eq_false_iff_ne]; exact h
  simp [bC, sIfS, tBool, sR2, sVar, sC, getv, gEq, pur, dep, eqv, orV, eB, sSkip, e, h]
abbrev bD : SS := sIfS (tNo (tTru (sCallP 2 (f__law_same 6) (dCons (sLst (dCons (sCallP 3 f_line_word (dCons (sVar 4) (dCons (sVar 5) (dCons (sVar 3) (dNil))))) (dCons (sCallK 3 0 3 [2, 1, 0] f_line_word dNil (dCons (sVar 3) (dCons (sVar 5) (dCons (sVar 4) (dNil))))) (dNil)))) (dCons (sLst (dCons (sVar 6) (dCons (sVar 6) (dNil)))) (dNil)))))) (sRet (sC (.bl false))) (sSkip)
theorem stD (h1 : f_line_word [X, Y, M] = .ret (.imm W)) (h2 : f__law_same 6 [.lst [W, W], .lst [W, W]] = .ret (.imm (.bl true))) : bD [s0, .own p, s2, .imm M, .imm X, .imm Y, .imm W, s7, s8, s9, s10, .non, .non] = .nx [s0, .own p, s2, .imm M, .imm X, .imm Y, .imm W, s7, s8, s9, s10, .non, .non] := by
  simp [bD, sIfS, tNo, tTru, sCallP, sCallK, TL.pick, dCons, dNil, sLst, lim_def, sVar, frz, h1, h2, getv, truth, eB, sSkip]
theorem stE (h1 : f__law_draw p [.int 13] = .ret (.imm R) p') (h2 : f__law_draw p' [.int 12] = .ret (.imm Hd) p'') : sAsgT (tgT 2 (tgCons (tgN 7) (tgCons (tgN 8) (tgNil)))) (sTup (dCons (sCallG 2 1 f__law_draw (dCons (sC (.int 13)) (dNil))) (dCons (sCallG 2 1 f__law_draw (dCons (sC (.int 12)) (dNil))) (dNil)))) [s0, .own p, s2, s3, s4, s5, s6, s7, s8, s9, s10, .non, .non] = .nx [s0, .own p'', s2, s3, s4, s5, s6, .imm R, .imm Hd, s9, s10, .non, .non] := by
  simp [sAsgT, sTup, sCallG, dCons, dNil, sC, frz, h1, h2, lim_def, eB, tgT, tgCons, tgN, tgNil]
theorem stF (h : f__law_least [R, Hd] = .ret (.imm W2)) : sAsg 9 (sCallP 2 f__law_least (dCons (sVar 7) (dCons (sVar 8) (dNil)))) [s0, .own p, s2, s3, s4, s5, s6, .imm R, .imm Hd, s9, s10, .non, .non] = .nx [s0, .own p, s2, s3, s4, s5, s6, .imm R, .imm Hd, .imm W2, s10, .non, .non] := by
  simp [sAsg, sCallP, dCons, dNil, sVar, frz, h, eB]
abbrev bG : SS := sIfS (tOr' (tNo (tTru (sCallP 2 (f__law_same 6) (dCons (sLst (dCons (sCallP 2 f_least_line (dCons (sVar 7) (dCons (sVar 8) (dNil)))) (dCons (sCallK 2 0 2 [1, 0] f_least_line dNil (dCons (sVar 8) (dCons (sVar 7) (dNil)))) (dNil)))) (dCons (sLst (dCons (sVar 9) (dCons (sVar 9) (dNil)))) (dNil)))))) (tOr' (tBool (sR2 gNe (sCm "str" gCount (sVar 9) (aCons (sC (.str [98])) (aNil))) (sVar 8))) (tBool (sR2 gNe (sRn (one gLen) (aCons (sVar 9) (aNil))) (sC2 gAdd (sVar 7) (sVar 8)))))) (sRet (sC (.bl false))) (sSkip)
theorem stG {w2 : List Nat} (h1 : f_least_line [R, Hd] = .ret (.imm (.str w2))) (h2 : f__law_same 6 [.lst [.str w2, .str w2], .lst [.str w2, .str w2]] = .ret (.imm (.bl true))) (h3 : gCount1 (.str w2) (.str [98]) = .val Hd) (h4 : gNe Hd Hd = .val (.bl false)) (h5 : gLen (.str w2) = .val N) (h6 : gAdd R Hd = .val N) (h7 : gNe N N = .val (.bl false)) :
    bG [s0, .own p, s2, s3, s4, s5, s6, .imm R, .imm Hd, .imm (.str w2), s10, .non, .non] = .nx [s0, .own p, s2, s3, s4, s5, s6, .imm R, .imm Hd, .imm (.str w2), s10, .non, .non] := by
  simp [bG, sIfS, tOr', tNo, tTru, sCallP, sCallK, TL.pick, dCons, dNil, sLst, lim_def, sVar, frz, h1, h2, getv, truth, eB, sSkip, tBool, sR2, sCm, isTy, aCons, aNil, sC, getcs, getc, gCount, one, h3, orV, h4, sRn, getvs, h5, sC2, h6, h7]
abbrev cS : SF := sLc [11] (sIt itemsL (sCallP 1 f__law_words (dCons (sC2 gAdd (sVar 7) (sVar 8)) (dNil)))) (tgN 11) (tAn (tBool (sR2 gEq (sCm "str" gCount (sVar 11) (aCons (sC (.str [98])) (aNil))) (sVar 8))) (tBool (sR2 gEq (sLc [12] (sIt itemsL (sCallP 1 f__law_turned (dCons (sVar 11) (dNil)))) (tgN 12) (tNo (tTru (sCallP 1 f__law_balanced (dCons (sVar 12) (dNil))))) (sVar 12)) (sLst (dNil))))) (sVar 11)
def bH (c : SF) : SS := sIfS (tAn (tBool (sC2 gLt (sC2 gAdd (sVar 7) (sVar 8)) (sC (.int 8)))) (tBool (sC2 gLt (sVar 2) (sC (.int 4))))) (sSeq (sAsg 10 c) (sIfS (tBool (sR2 gNe (sCn gMin (aCons (sVar 10) (aNil))) (sVar 9))) (sRet (sC (.bl false))) (sSkip))) (sSkip)
theorem stH1 {c : SF} {l : List D} (h1 : gAdd R Hd = .val N) (h2 : gLt N (.int 8) = .val (.bl true)) (h3 : gLt T (.int 4) = .val (.bl true)) (hc : c [s0, .own p, .imm T, s3, s4, s5, s6, .imm R, .imm Hd, .imm W2, s10, .non, .non] = .ok (.cell l) [s0, .own p, .imm T, s3, s4, s5, s6, .imm R, .imm Hd, .imm W2, s10, .non, .non]) (h4 : gMin [.lst l] = .val W2) (h5 : gNe W2 W2 = .val (.bl false)) :
    bH c [s0, .own p, .imm T, s3, s4, s5, s6, .imm R, .imm Hd, .imm W2, s10, .non, .non] = .nx [s0, .own p, .imm T, s3, s4, s5, s6, .imm R, .imm Hd, .imm W2, .imm (.lst l), .non, .non] := by
  simp [bH, sIfS, tAn, tBool, sC2, sVar, getc, h1, orV, sC, h2, h3, eB, sSeq, sAsg, hc, frz, sR2, sCn, aCons, aNil, getcs, h4, getv, h5, sSkip]
theorem stH2 {c : SF} (h1 : gAdd R Hd = .val N) (h2 : gLt N (.int 8) = .val (.bl false)) : bH c [s0, .own p, .imm T, s3, s4, s5, s6, .imm R, .imm Hd, .imm W2, s10, .non, .non] = .nx [s0, .own p, .imm T, s3, s4, s5, s6, .imm R, .imm Hd, .imm W2, s10, .non, .non] := by
  simp [bH, sIfS, tAn, tBool, sC2, sVar, getc, h1, orV, sC, h2, eB, sSkip]
theorem stH3 {c : SF} (h1 : gAdd R Hd = .val N) (h2 : gLt N (.int 8) = .val (.bl true)) (h3 : gLt T (.int 4) = .val (.bl false)) : bH c [s0, .own p, .imm T, s3, s4, s5, s6, .imm R, .imm Hd, .imm W2, s10, .non, .non] = .nx [s0, .own p, .imm T, s3, s4, s5, s6, .imm R, .imm Hd, .imm W2, s10, .non, .non] := by
  simp [bH, sIfS, tAn, tBool, sC2, sVar, getc, h1, orV, sC, h2, h3, eB, sSkip]
end
def bAll : SS := sSeq (sAsg 3 (sCallG 2 1 f__law_draw (dCons (sC (.int 25)) (dNil)))) (sSeq (sAsgT (tgT 3 (tgCons (tgN 4) (tgCons (tgN 5) (tgCons (tgN 6) (tgNil))))) (sCallG 2 1 f__law_drawn_line (dCons (sVar 3) (dNil)))) (sSeq bC (sSeq bD (sSeq (sAsgT (tgT 2 (tgCons (tgN 7) (tgCons (tgN 8) (tgNil)))) (sTup (dCons (sCallG 2 1 f__law_draw (dCons (sC (.int 13)) (dNil))) (dCons (sCallG 2 1 f__law_draw (dCons (sC (.int 12)) (dNil))) (dNil))))) (sSeq (sAsg 9 (sCallP 2 f__law_least (dCons (sVar 7) (dCons (sVar 8) (dNil))))) (sSeq bG (bH cS)))))))
theorem law_body : b_law = sSeq (sAsgO 1 (sCallP 1 f__law_purse (dCons (sVar 0) (dNil)))) (sSeq (sFor (sRng1 (sC (.int 10))) (tgN 2) bAll) (sRet (sCallP 2 (f__law_same 6) (dCons (sLst (dCons (sCallP 2 f_least_line (dCons (sC (.int 0)) (dCons (sC (.int 0)) (dNil)))) (dCons (sCallP 2 f_least_line (dCons (sC (.int 24)) (dCons (sC (.int 0)) (dNil)))) (dCons (sCallP 2 f_least_line (dCons (sC (.int 0)) (dCons (sC (.int 24)) (dNil)))) (dCons (sCallP 3 f_line_word (dCons (sTup (dCons (sC (.int 1)) (dCons (sC (.int 1)) (dNil)))) (dCons (sTup (dCons (sC (.int 0)) (dCons (sC (.int 1)) (dNil)))) (dCons (sC (.int 0)) (dNil))))) (dNil)))))) (dCons (sLst (dCons (sC (.str [])) (dCons (sC2 gMul (sC (.str [97])) (sC (.int 24))) (dCons (sC2 gMul (sC (.str [98])) (sC (.int 24))) (dCons (sC (.str [])) (dNil)))))) (dNil)))))) := rfl
end K81

set_option Elab.async false
set_option linter.all false
set_option autoImplicit false
set_option maxRecDepth 100000
set_option maxHeartbeats 4000000
namespace K81
open PySem PySem.Spec PyProof.Rows L2 TL

theorem PurseOk.mono {n m : Nat} {p : List D} (h : PurseOk n p) (hm : n ≤ m) : PurseOk m p := by
  obtain ⟨cells, i, cur, cnt, seed, e, a, b, c, d, f, g⟩ := h
  exact ⟨cells, i, cur, cnt, seed, e, a, b, c, d, by omega, g⟩
structure Good (X Y W : D) (m : Nat) : Prop where
  ex : ∃ a b c d, X = .tup [.int a, .int b] ∧ Y = .tup [.int c, .int d] ∧ W = .str (lineW a b c d m) ∧ Lim a b c d ∧ a ≤ b ∧ c < d ∧ Int.gcd a b = 1 ∧ Int.gcd c d = 1
theorem gne_int (z : Int) : gNe (.int z) (.int z) = .val (.bl false) := by simp [gNe, pur, dep, eqv]
theorem gne_str (w : List Nat) : gNe (.str w) (.str w) = .val (.bl false) := by simp [gNe, pur, dep, eqv]
theorem glt_int (z u : Int) : gLt (.int z) (.int u) = .val (.bl (decide (z < u))) := rfl
theorem strs_map : ∀ l : List (List Nat), strsD (l.map .str) = some l
  | [] => rfl
  | a :: l => by simp [strsD, strs_map l]
theorem min_ok {r h : Nat} (hs : r + h < 8) : gMin [.lst ((someW r h).map .str)] = .val (.str (leastW r h)) := by
  have c := chk_all r (by omega) h (by omega) hs
  unfold chk at c
  cases e : someW r h with
  | nil => rw [e] at c; cases c
  | cons x l =>
    rw [e] at c
    have c : minS x l = leastW r h := by simpa using c
    have e1 : intsL (.lst ((x :: l).map .str)) = none := rfl
    have e2 : strsL (.lst ((x :: l).map .str)) = some (x :: l) := strs_map (x :: l)
    simp only [gMin, e1, gMinSL, e2, c]
theorem good_word {X Y W : D} {m : Nat} (g : Good X Y W m) (hm : m ≤ 24) : f_line_word [X, Y, .int m] = .ret (.imm W) ∧ f__law_same 6 [.lst [W, W], .lst [W, W]] = .ret (.imm (.bl true)) := by
  obtain ⟨a, b, c, d, rfl, rfl, rfl, l, h1, h2, h3, h4⟩ := g.ex
  exact ⟨word_ok l h1 h2 h3 h4 hm, same_strs 4 [lineW a b c d m, lineW a b c d m] (by simp)⟩
theorem pickC {n m : Nat} {p : List D} (h : PurseOk n p) (hn : n + 2 < 1000000) (hm : m ≤ 24) : ∃ X Y W p' p'', f__law_pick p [.lst C3] = .ret (.imm X) p' ∧ f__law_pick p' [.lst C2] = .ret (.imm Y) p'' ∧ f__law_line [X, Y, .int m] = .ret (.imm W) ∧ Good X Y W m ∧ PurseOk (n + 2) p'' := by
  obtain ⟨X, p', hX, h1, q1⟩ := pick_ok (xs := C3) h (by omega) (by decide) (by decide)
  obtain ⟨Y, p'', hY, h2, q2⟩ := pick_ok (xs := C2) q1 (by omega) (by decide) (by decide)
  have fX : ∃ a b, X = .tup [.int a, .int b] ∧ 0 ≤ a ∧ 0 < b ∧ a ≤ b ∧ b ≤ 2 ^ 30 ∧ Int.gcd a b = 1 := by
    simp only [C3, List.mem_cons, List.not_mem_nil, or_false] at hX
    rcases hX with rfl | rfl | rfl
    · exact ⟨999999998, 999999999, rfl, by decide, by decide, by decide, by decide, by decide +kernel⟩
    · exact ⟨1, 999999999, rfl, by decide, by decide, by decide, by decide, by decide +kernel⟩
    · exact ⟨499999999, 999999999, rfl, by decide, by decide, by decide, by decide, by decide +kernel⟩
  have fY : ∃ c d, Y = .tup [.int c, .int d] ∧ 0 ≤ c ∧ 0 < d ∧ c < d ∧ d ≤ 2 ^ 30 ∧ Int.gcd c d = 1 := by
    simp only [C2, List.mem_cons, List.not_mem_nil, or_false] at hY
    rcases hY with rfl | rfl
    · exact ⟨0, 1, rfl, by decide, by decide, by decide, by decide, by decide +kernel⟩
    · exact ⟨999999998, 999999999, rfl, by decide, by decide, by decide, by decide, by decide +kernel⟩
  obtain ⟨a, b, rfl, a0, b0, ab, b1, g1⟩ := fX
  obtain ⟨c, d, rfl, c0, d0, cd, d1, g2⟩ := fY
  have l : Lim a b c d := ⟨a0, b0, c0, d0, by omega, b1, by omega, d1⟩
  exact ⟨_, _, .str (lineW a b c d m), p', p'', h1, h2, lline_ok l ab hm, ⟨a, b, c, d, rfl, rfl, rfl, l, ab, cd, g1, g2⟩, q2⟩
theorem seq_nx {f g : SS} {e e' : TL.Env} (h : f e = .nx e') : sSeq f g e = g e' := by simp only [sSeq, h]
theorem body_ok {n : Nat} {p : List D} {z : Int} {s0 s3 s4 s5 s6 s7 s8 s9 s10 : Sl} (h : PurseOk n p) (hn : n + 20 < 1000000) : ∃ p' t3 t4 t5 t6 t7 t8 t9 t10, bAll [s0, .own p, .imm (.int z), s3, s4, s5, s6, s7, s8, s9, s10, .non, .non] = .nx [s0, .own p', .imm (.int z), t3, t4, t5, t6, t7, t8, t9, t10, .non, .non] ∧ PurseOk (n + 20) p' := by
  obtain ⟨t, p1, h1, a1, b1, q1⟩ := draw_ok h (by omega) (many := 25) (by decide) (by decide)
  obtain ⟨m, rfl⟩ := Int.eq_ofNat_of_zero_le a1
  have hm : m ≤ 24 := by omega
  obtain ⟨a, b, c, d, p2, h2, l, ab, cd, g1, g2, q2⟩ := drawn_ok q1 (by omega) hm
  have C : ∃ X Y W p3, bC [s0, .own p2, .imm (.int z), .imm (.int m), .imm (.tup [.int a, .int b]), .imm (.tup [.int c, .int d]), .imm (.str (lineW a b c d m)), s7, s8, s9, s10, .non, .non] = .nx [s0, .own p3, .imm (.int z), .imm (.int m), .imm X, .imm Y, .imm W, s7, s8, s9, s10, .non, .non] ∧ Good X Y W m ∧ PurseOk (n + 7) p3 := by
    by_cases hz : z = 0
    · subst hz
      obtain ⟨X, Y, W, p', p'', e1, e2, e3, g, q⟩ := pickC q2 (by omega) hm
      exact ⟨X, Y, W, p'', stC0 e1 e2 e3, g, q.mono (by omega)⟩
    · exact ⟨_, _, _, p2, stC1 hz, ⟨a, b, c, d, rfl, rfl, rfl, l, ab, cd, g1, g2⟩, q2.mono (by omega)⟩
  obtain ⟨X, Y, W, p3, hC, gd, q3⟩ := C
  obtain ⟨w1, w2⟩ := good_word gd hm
  obtain ⟨t, p4, h4, a4, b4, q4⟩ := draw_ok q3 (by omega) (many := 13) (by decide) (by decide)
  obtain ⟨r, rfl⟩ := Int.eq_ofNat_of_zero_le a4
  obtain ⟨t, p5, h5, a5, b5, q5⟩ := draw_ok q4 (by omega) (many := 12) (by decide) (by decide)
  obtain ⟨k, rfl⟩ := Int.eq_ofNat_of_zero_le a5
  have hs : r + k ≤ 24 := by omega
  have ha : gAdd (.int (r : Int)) (.int (k : Int)) = .val (.int ((r + k : Nat) : Int)) := by simp only [gAdd, Int.natCast_add]
  have h3 : gCount1 (.str (leastW r k)) (.str [98]) = .val (.int (k : Int)) := by
    have := leastW_count hs
    simp only [gCount1, this]
  have h5' : gLen (.str (leastW r k)) = .val (.int ((r + k : Nat) : Int)) := by
    have := leastW_len (r := r) (h := k)
    simp only [gLen, this, lim_def]
    rw [if_pos (by omega)]
  have H : ∃ t10, bH cS [s0, .own p5, .imm (.int z), .imm (.int m), .imm X, .imm Y, .imm W, .imm (.int r), .imm (.int k), .imm (.str (leastW r k)), s10, .non, .non] = .nx [s0, .own p5, .imm (.int z), .imm (.int m), .imm X, .imm Y, .imm W, .imm (.int r), .imm (.int k), .imm (.str (leastW r k)), t10, .non, .non] := by
    by_cases h8 : ((r + k : Nat) : Int) < 8
    · have e1 : gLt (.int ((r + k : Nat) : Int)) (.int 8) = .val (.bl true) := by rw [glt_int, decide_eq_true h8]
      by_cases h9 : z < 4
      · have e2 : gLt (.int z) (.int 4) = .val (.bl true) := by rw [glt_int, decide_eq_true h9]
        exact ⟨_, stH1 ha e1 e2 (some_ok (by omega)) (min_ok (by omega)) (gne_str _)⟩
      · have e2 : gLt (.int z) (.int 4) = .val (.bl false) := by rw [glt_int, decide_eq_false h9]
        exact ⟨_, stH3 ha e1 e2⟩
    · have e1 : gLt (.int ((r + k : Nat) : Int)) (.int 8) = .val (.bl false) := by rw [glt_int, decide_eq_false h8]
      exact ⟨_, stH2 ha e1⟩
  obtain ⟨t10, hH⟩ := H
  have hG := stG (s0 := s0) (s2 := .imm (.int z)) (s3 := .imm (.int m)) (s4 := .imm X) (s5 := .imm Y) (s6 := .imm W) (s10 := s10) (p := p5) (pleast_ok hs) (same_strs 4 [leastW r k, leastW r k] (by simp)) h3 (gne_int _) h5' ha (gne_int _)
  refine ⟨p5, .imm (.int m), .imm X, .imm Y, .imm W, .imm (.int r), .imm (.int k), .imm (.str (leastW r k)), t10, ?_, q5.mono (by omega)⟩
  unfold bAll
  rw [seq_nx (stA h1), seq_nx (stB h2), seq_nx hC, seq_nx (stD w1 w2), seq_nx (stE h4 h5), seq_nx (stF (lleast_ok hs)), seq_nx hG]
  exact hH
theorem law_true (ns : List Int) (h : ns.length ≤ 63) : f_law [.scr ns] = .ret (.imm (.bl true)) := by
  obtain ⟨p, hp, q⟩ := purse_ok ns h
  obtain ⟨e', h1, h2⟩ := loop_inv (t := tgN 2) (b := bAll) (fun k e => ∃ p s2 s3 s4 s5 s6 s7 s8 s9 s10, e = [.imm (.scr ns), .own p, s2, s3, s4, s5, s6, s7, s8, s9, s10, .non, .non] ∧ PurseOk (k * 20) p) ((List.range 10).map fun k : Nat => D.int k) 0 [.imm (.scr ns), .own p, .non, .non, .non, .non, .non, .non, .non, .non, .non, .non, .non] ⟨p, _, _, _, _, _, _, _, _, _, rfl, q⟩ (fun i d e hd hi => by
    obtain ⟨p, s2, s3, s4, s5, s6, s7, s8, s9, s10, rfl, q⟩ := hi
    have hi := (List.getElem?_eq_some_iff.mp hd).1
    simp only [List.length_map, List.length_range] at hi
    rw [List.getElem?_map, Option.map_eq_some_iff] at hd
    obtain ⟨k, _, rfl⟩ := hd
    obtain ⟨p', t3, t4, t5, t6, t7, t8, t9, t10, e1, q1⟩ := body_ok (z := (k : Int)) (s0 := .imm (.scr ns)) (s3 := s3) (s4 := s4) (s5 := s5) (s6 := s6) (s7 := s7) (s8 := s8) (s9 := s9) (s10 := s10) q (by omega)
    exact ⟨_, rfl, _, .inl e1, p', _, _, _, _, _, _, _, _, _, rfl, q1.mono (by omega)⟩)
  obtain ⟨p', s2, s3, s4, s5, s6, s7, s8, s9, s10, rfl, _⟩ := h2
  have rg : sRng1 (sC (.int 10)) [.imm (.scr ns), .own p, .non, .non, .non, .non, .non, .non, .non, .non, .non, .non, .non] = .ok ((List.range 10).map fun k : Nat => .int k) [.imm (.scr ns), .own p, .non, .non, .non, .non, .non, .non, .non, .non, .non, .non, .non] := rng1_ok (n := 10) rfl (by decide)
  have e00 : f_least_line [.int 0, .int 0] = .ret (.imm (.str [])) := pleast_ok (r := 0) (h := 0) (by decide)
  have l24 : leastW 24 0 = List.replicate 24 97 := by decide +kernel
  have l42 : leastW 0 24 = List.replicate 24 98 := by decide +kernel
  have e24 : f_least_line [.int 24, .int 0] = .ret (.imm (.str (leastW 24 0))) := pleast_ok (r := 24) (h := 0) (by decide)
  have e42 : f_least_line [.int 0, .int 24] = .ret (.imm (.str (leastW 0 24))) := pleast_ok (r := 0) (h := 24) (by decide)
  rw [l24] at e24
  rw [l42] at e42
  have ew : f_line_word [.tup [.int 1, .int 1], .tup [.int 0, .int 1], .int 0] = .ret (.imm (.str [])) := word_ok (a := 1) (b := 1) (c := 0) (d := 1) (n := 0) ⟨by decide, by decide, by decide, by decide, by decide, by decide, by decide, by decide⟩ (by decide) (by decide) (by decide +kernel) (by decide +kernel) (by decide)
  have m1 : gMul (.str [97]) (.int 24) = .val (.str (List.replicate 24 97)) := by simp [gMul, lim_def]
  have m2 : gMul (.str [98]) (.int 24) = .val (.str (List.replicate 24 98)) := by simp [gMul, lim_def]
  have sm := same_strs 4 [[], List.replicate 24 97, List.replicate 24 98, []] (by simp)
  simp only [List.map_cons, List.map_nil] at sm
  have e0 : f_law [.scr ns] = FO.of (b_law [.imm (.scr ns), .non, .non, .non, .non, .non, .non, .non, .non, .non, .non, .non, .non]) := rfl
  have hA : sAsgO 1 (sCallP 1 f__law_purse (dCons (sVar 0) (dNil))) [.imm (.scr ns), .non, .non, .non, .non, .non, .non, .non, .non, .non, .non, .non, .non] = .nx [.imm (.scr ns), .own p, .non, .non, .non, .non, .non, .non, .non, .non, .non, .non, .non] := by
    simp [sAsgO, sCallP, dCons, dNil, sVar, frz, hp, eB]
  have hL : sFor (sRng1 (sC (.int 10))) (tgN 2) bAll [.imm (.scr ns), .own p, .non, .non, .non, .non, .non, .non, .non, .non, .non, .non, .non] = .nx [.imm (.scr ns), .own p', s2, s3, s4, s5, s6, s7, s8, s9, s10, .non, .non] := by
    simp only [sFor, rg, eB_ok, h1]
  generalize List.replicate 24 97 = wa at *
  generalize List.replicate 24 98 = wb at *
  rw [e0, law_body, seq_nx hA, seq_nx hL]
  simp [sRet, sCallP, dCons, dNil, sLst, sTup, sC, sC2, lim_def, frz, e00, e24, e42, ew, m1, m2, getc, orV, sm, eB, FO.of, clo]
end K81

set_option Elab.async false
set_option linter.all false
set_option maxRecDepth 100000
open PySem PySem.W PyProof.Rows
set_option maxHeartbeats 0 in
theorem PySem.Challenge.cw_wordsturned_k81_whole_words_of_lines_holds : PySem.Challenge.rw_wordsturned_k81_whole_words_of_lines.Holds := by
  w_on; o_law; k_head; (case hw => w_witness2)
  k_fill
  refine TL.end_walk (l := PySem.Challenge.rw_wordsturned_k81_whole_words_of_lines) (n := 63) (k := 7) (x := "script") (CX := fun _ => C8.CX0) (ca := fun _ _ => 0) (sem := K81.f_law) rfl (by decide) rfl ⟨rfl, by decide, by decide⟩ (fun w h Y => PySem.W.kIn_of Y) ?F K81.law_true (fun _ _ _ _ _ h => h)
  case F =>
    intro w mg fa h KX G hmg
    have gs : K81.Gs (L2.KOf KX) mg := by
      unfold L2.KOf
      refine' ⟨PySem.W.mg_none_of KX G ?z_abs, PySem.W.mg_none_of KX G ?z_all, PySem.W.mg_none_of KX G ?z_bool, PySem.W.mg_none_of KX G ?z_int, PySem.W.mg_none_of KX G ?z_isinstance, PySem.W.mg_none_of KX G ?z_len, PySem.W.mg_none_of KX G ?z_list, PySem.W.mg_none_of KX G ?z_max, PySem.W.mg_none_of KX G ?z_min, PySem.W.mg_none_of KX G ?z_range, PySem.W.mg_none_of KX G ?z_str, PySem.W.mg_none_of KX G ?z_tuple, PySem.W.mg_none_of KX G ?z_zip, TL.int_mk KX G ?g_MOST_WORD ?r_MOST_WORD, TL.df_mk KX G ?a__law_purse ?l__law_purse ?c__law_purse ?k__law_purse, TL.df_mk KX G ?a__law_same ?l__law_same ?c__law_same ?k__law_same, TL.df_mk KX G ?a__law_draw ?l__law_draw ?c__law_draw ?k__law_draw, TL.df_mk KX G ?a__law_divisor ?l__law_divisor ?c__law_divisor ?k__law_divisor, TL.df_mk KX G ?a__law_lowest ?l__law_lowest ?c__law_lowest ?k__law_lowest, TL.df_mk KX G ?a__law_line ?l__law_line ?c__law_line ?k__law_line, TL.df_mk KX G ?a__law_drawn_line ?l__law_drawn_line ?c__law_drawn_line ?k__law_drawn_line, TL.df_mk KX G ?a__law_least ?l__law_least ?c__law_least ?k__law_least, TL.df_mk KX G ?a_is_whole ?l_is_whole ?c_is_whole ?k_is_whole, TL.df_mk KX G ?a_is_count ?l_is_count ?c_is_count ?k_is_count, TL.df_mk KX G ?a_check_size ?l_check_size ?c_check_size ?k_check_size, TL.df_mk KX G ?a_height_at ?l_height_at ?c_height_at ?k_height_at, TL.df_mk KX G ?a_line_by ?l_line_by ?c_line_by ?k_line_by, TL.df_mk KX G ?a_divisor_of ?l_divisor_of ?c_divisor_of ?k_divisor_of, TL.df_mk KX G ?a_lowest ?l_lowest ?c_lowest ?k_lowest, TL.df_mk KX G ?a_least_by ?l_least_by ?c_least_by ?k_least_by, TL.df_mk KX G ?a_least_line ?l_least_line ?c_least_line ?k_least_line, TL.df_mk KX G ?a_is_part_by ?l_is_part_by ?c_is_part_by ?k_is_part_by, TL.df_mk KX G ?a_is_start_by ?l_is_start_by ?c_is_start_by ?k_is_start_by, TL.df_mk KX G ?a_line_word ?l_line_word ?c_line_word ?k_line_word, TL.df_mk KX G ?a__law_pick ?l__law_pick ?c__law_pick ?k__law_pick, TL.df_mk KX G ?a__law_words ?l__law_words ?c__law_words ?k__law_words, TL.df_mk KX G ?a__law_turned ?l__law_turned ?c__law_turned ?k__law_turned, TL.df_mk KX G ?a__law_balanced ?l__law_balanced ?c__law_balanced ?k__law_balanced, TL.df_mk KX G ?a_law ?l_law ?c_law ?k_law⟩
      (case z_abs => k_is); (case z_all => k_is); (case z_bool => k_is); (case z_int => k_is); (case z_isinstance => k_is); (case z_len => k_is); (case z_list => k_is); (case z_max => k_is); (case z_min => k_is); (case z_range => k_is); (case z_str => k_is); (case z_tuple => k_is); (case z_zip => k_is); (case g_MOST_WORD => k_is); (case r_MOST_WORD => exact ⟨_, rfl⟩); (case a__law_purse => k_is); (case l__law_purse => k_is); (case c__law_purse => k_is); (case k__law_purse => k_is); (case a__law_same => k_is); (case l__law_same => k_is); (case c__law_same => k_is); (case k__law_same => k_is); (case a__law_draw => k_is); (case l__law_draw => k_is); (case c__law_draw => k_is); (case k__law_draw => k_is); (case a__law_divisor => k_is); (case l__law_divisor => k_is); (case c__law_divisor => k_is); (case k__law_divisor => k_is); (case a__law_lowest => k_is); (case l__law_lowest => k_is); (case c__law_lowest => k_is); (case k__law_lowest => k_is); (case a__law_line => k_is); (case l__law_line => k_is); (case c__law_line => k_is); (case k__law_line => k_is); (case a__law_drawn_line => k_is); (case l__law_drawn_line => k_is); (case c__law_drawn_line => k_is); (case k__law_drawn_line => k_is); (case a__law_least => k_is); (case l__law_least => k_is); (case c__law_least => k_is); (case k__law_least => k_is); (case a_is_whole => k_is); (case l_is_whole => k_is); (case c_is_whole => k_is); (case k_is_whole => k_is); (case a_is_count => k_is); (case l_is_count => k_is); (case c_is_count => k_is); (case k_is_count => k_is); (case a_check_size => k_is); (case l_check_size => k_is); (case c_check_size => k_is); (case k_check_size => k_is); (case a_height_at => k_is); (case l_height_at => k_is); (case c_height_at => k_is); (case k_height_at => k_is); (case a_line_by => k_is); (case l_line_by => k_is); (case c_line_by => k_is); (case k_line_by => k_is); (case a_divisor_of => k_is); (case l_divisor_of => k_is); (case c_divisor_of => k_is); (case k_divisor_of => k_is); (case a_lowest => k_is); (case l_lowest => k_is); (case c_lowest => k_is); (case k_lowest => k_is); (case a_least_by => k_is); (case l_least_by => k_is); (case c_least_by => k_is); (case k_least_by => k_is); (case a_least_line => k_is); (case l_least_line => k_is); (case c_least_line => k_is); (case k_least_line => k_is); (case a_is_part_by => k_is); (case l_is_part_by => k_is); (case c_is_part_by => k_is); (case k_is_part_by => k_is); (case a_is_start_by => k_is); (case l_is_start_by => k_is); (case c_is_start_by => k_is); (case k_is_start_by => k_is); (case a_line_word => k_is); (case l_line_word => k_is); (case c_line_word => k_is); (case k_line_word => k_is); (case a__law_pick => k_is); (case l__law_pick => k_is); (case c__law_pick => k_is); (case k__law_pick => k_is); (case a__law_words => k_is); (case l__law_words => k_is); (case c__law_words => k_is); (case k__law_words => k_is); (case a__law_turned => k_is); (case l__law_turned => k_is); (case c__law_turned => k_is); (case k__law_turned => k_is); (case a__law_balanced => k_is); (case l__law_balanced => k_is); (case c__law_balanced => k_is); (case k__law_balanced => k_is); (case a_law => k_is); (case l_law => k_is); (case c_law => k_is); (case k_law => k_is)
    exact TL.end_F gs.d_law hmg K81.bp_law fun base => K81.c_all gs


