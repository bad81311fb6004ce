import PyProof.Rows.All
import Wide.All
import OpenK.AllK
import Wide.FinOn
import HandS.ForMost
import HandS.Deep
import HandS.IsInst
import HandS.Style
import HandS.Rev
import HandS.Zip
import PySem.Challenge.RW_standstill_k04_a_part_lost
set_option Elab.async false
set_option linter.all false
set_option maxRecDepth 100000
section
/-! DL1: data, their representation, slots, the relation of a data environment with a state. -/
namespace DL
open PySem PySem.Spec PyProof.Rows L2

abbrev D := PyData
abbrev St := L2.St
/-- what a local holds: (s) the script, or a list of ints like it; unknown; frozen data (f: its lists are younger than the entry); a list of its own (io: a parameter's; lk: locked; f: of its items) -/
inductive Sl where
  | u
  | v (f : Bool) (x : D)
  | o (io lk f : Bool) (xs : List D)
  | s (ns : List Int)
  | ob (f : Bool) (cl : Str) (fs : List (Str × D))
abbrev EnvD := List Sl

/-! ### representation -/
mutual
inductive Rs (G : Hp) : V → D → Prop
  | non : Rs G .non .none
  | bl (b : Bool) : Rs G (.bl b) (.bool b)
  | int (i : Int) : Rs G (.int i) (.int i)
  | str (x : Str) : Rs G (.str x) (.str x)
  | lst {a : Addr} {xs : List V} {ds : List D} : G a = some (.lst xs) → RsAll G xs ds → Rs G (.ref a) (.list ds)
  | tup {a : Addr} {xs : List V} {ds : List D} : G a = some (.tup xs) → RsAll G xs ds → Rs G (.ref a) (.tuple ds)
inductive RsAll (G : Hp) : List V → List D → Prop
  | nil : RsAll G [] []
  | cons {v : V} {vs : List V} {d : D} {ds : List D} : Rs G v d → RsAll G vs ds → RsAll G (v :: vs) (d :: ds)
end

mutual
theorem Rs.mono {G G' : Hp} (s : Same G G') : ∀ {d : D} {v : V}, Rs G v d → Rs G' v d
  | .none, _, h => by cases h; exact .non
  | .bool _, _, h => by cases h; exact .bl _
  | .int _, _, h => by cases h; exact .int _
  | .str _, _, h => by cases h; exact .str _
  | .list ds, _, h => by
    cases h with
    | lst e a => exact .lst (s _ _ e) (RsAll.mono s a)
  | .tuple ds, _, h => by
    cases h with
    | tup e a => exact .tup (s _ _ e) (RsAll.mono s a)
  | .dict _, _, h => by cases h
theorem RsAll.mono {G G' : Hp} (s : Same G G') : ∀ {ds : List D} {vs : List V}, RsAll G vs ds → RsAll G' vs ds
  | [], _, h => by cases h; exact .nil
  | d :: ds, _, h => by
    cases h with
    | cons a b => exact .cons (Rs.mono s a) (RsAll.mono s b)
end
mutual
theorem Rs.dp {K : PySem.W.Frag} {G : Hp} : ∀ {d : D} {v : V}, Rs G v d → Dp K G v d
  | .none, _, h => by cases h; exact .non
  | .bool _, _, h => by cases h; exact .bl _
  | .int _, _, h => by cases h; exact .int _
  | .str _, _, h => by cases h; exact .str _
  | .list ds, _, h => by
    cases h with
    | lst e a => exact .lst (SqL.of e) (RsAll.dp a)
  | .tuple ds, _, h => by
    cases h with
    | tup e a => exact .tup (SqT.of e) (RsAll.dp a)
  | .dict _, _, h => by cases h
theorem RsAll.dp {K : PySem.W.Frag} {G : Hp} : ∀ {ds : List D} {vs : List V}, RsAll G vs ds → DpAll K G vs ds
  | [], _, h => by cases h; exact .nil
  | d :: ds, _, h => by
    cases h with
    | cons a b => exact .cons (Rs.dp a) (RsAll.dp b)
end
theorem sqT_mono {K : PySem.W.Frag} {H H' : Hp} {a : Addr} {xs : List V} (e : Same H H') (h : SqT K H a xs) : SqT K H' a xs := by
  rcases h with (h | ⟨o, h⟩) | h
  · exact .inl (.inl (e _ _ h))
  · exact .inl (.inr ⟨o, e _ _ h⟩)
  · exact .inr h
mutual
theorem dp_mono {K : PySem.W.Frag} {G G' : Hp} (s : Same G G') : ∀ {d : D} {v : V}, Dp K G v d → Dp K G' v d
  | .none, _, h => by cases h; exact .non
  | .bool _, _, h => by cases h; exact .bl _
  | .int _, _, h => by cases h; exact .int _
  | .str _, _, h => by cases h; exact .str _
  | .list ds, _, h => by
    cases h with
    | lst e a => exact .lst (s.seq e) (dpAll_mono s a)
  | .tuple ds, _, h => by
    cases h with
    | tup e a => exact .tup (sqT_mono s e) (dpAll_mono s a)
  | .dict _, _, h => by cases h
theorem dpAll_mono {K : PySem.W.Frag} {G G' : Hp} (s : Same G G') : ∀ {ds : List D} {vs : List V}, DpAll K G vs ds → DpAll K G' vs ds
  | [], _, h => by cases h; exact .nil
  | d :: ds, _, h => by
    cases h with
    | cons a b => exact .cons (dp_mono s a) (dpAll_mono s b)
end
theorem dpAll_length {K : PySem.W.Frag} {G : Hp} : ∀ {vs : List V} {ds : List D}, DpAll K G vs ds → vs.length = ds.length
  | _, _, .nil => rfl
  | _, _, .cons _ t => by simp [dpAll_length t]
theorem RsAll.length {G : Hp} : ∀ {vs : List V} {ds : List D}, RsAll G vs ds → vs.length = ds.length
  | _, _, .nil => rfl
  | _, _, .cons _ t => by simp [RsAll.length t]

/-! data without lists -/
mutual
def noL : D → Bool
  | .list _ => false
  | .dict _ => false
  | .tuple xs => noLAll xs
  | _ => true
def noLAll : List D → Bool
  | [] => true
  | x :: xs => noL x && noLAll xs
end
/-- scalars -/
def sc : D → Bool
  | .none => true
  | .bool _ => true
  | .int _ => true
  | .str _ => true
  | _ => false
mutual
theorem Rs.noL {G G' : Hp} (s : ∀ p o, G p = some o → (∀ xs, o ≠ .lst xs) → G' p = some o) : ∀ {d : D} {v : V}, noL d = true → Rs G v d → Rs G' v d
  | .none, _, _, h => by cases h; exact .non
  | .bool _, _, _, h => by cases h; exact .bl _
  | .int _, _, _, h => by cases h; exact .int _
  | .str _, _, _, h => by cases h; exact .str _
  | .list ds, _, n, h => by simp [DL.noL] at n
  | .tuple ds, _, n, h => by
    have n' : noLAll ds = true := by simpa [DL.noL] using n
    cases h with
    | tup e a => exact .tup (s _ _ e fun _ z => nomatch z) (RsAll.noL s n' a)
  | .dict _, _, _, h => by cases h
theorem RsAll.noL {G G' : Hp} (s : ∀ p o, G p = some o → (∀ xs, o ≠ .lst xs) → G' p = some o) : ∀ {ds : List D} {vs : List V}, noLAll ds = true → RsAll G vs ds → RsAll G' vs ds
  | [], _, _, h => by cases h; exact .nil
  | d :: ds, _, n, h => by
    have n' : DL.noL d = true ∧ noLAll ds = true := by simpa [noLAll] using n
    cases h with
    | cons a b => exact .cons (Rs.noL s n'.1 a) (RsAll.noL s n'.2 b)
end
mutual
theorem Rs.strip {G : Hp} : ∀ {d : D} {v : V}, Rs G v d → Rs (fun p => match G p with | some (.tup xs) => some (.tup xs) | some (.lst xs) => some (.lst xs) | _ => none) v d
  | .none, _, h => by cases h; exact .non
  | .bool _, _, h => by cases h; exact .bl _
  | .int _, _, h => by cases h; exact .int _
  | .str _, _, h => by cases h; exact .str _
  | .list ds, _, h => by
    cases h with
    | lst e a => exact .lst (by simp only [e]) (RsAll.strip a)
  | .tuple ds, _, h => by
    cases h with
    | tup e a => exact .tup (by simp only [e]) (RsAll.strip a)
  | .dict _, _, h => by cases h
theorem RsAll.strip {G : Hp} : ∀ {ds : List D} {vs : List V}, RsAll G vs ds → RsAll (fun p => match G p with | some (.tup xs) => some (.tup xs) | some (.lst xs) => some (.lst xs) | _ => none) vs ds
  | [], _, h => by cases h; exact .nil
  | d :: ds, _, h => by
    cases h with
    | cons a b => exact .cons (Rs.strip a) (RsAll.strip b)
end
theorem fr_noL {H0 G : Hp} {d : D} {v : V} (h : DL.noL d = true) (r : Rs G v d) : Rs (fun p => match G p with | some (.tup xs) => some (.tup xs) | _ => none) v d := by
  refine Rs.noL (G := fun p => match G p with | some (.tup xs) => some (.tup xs) | some (.lst xs) => some (.lst xs) | _ => none) (fun p o e n => ?_) h ?_
  · cases q : G p with
    | none => simp [q] at e
    | some u =>
      cases u <;> simp [q] at e ⊢ <;> first | exact e | (subst e; exact absurd rfl (n _))
  · exact Rs.strip r
theorem dp_sc {K : PySem.W.Frag} {G G' : Hp} {d : D} {v : V} (h : DL.sc d = true) (r : Dp K G v d) : Rs G' v d := by
  cases r with
  | non => exact .non
  | bl => exact .bl _
  | int => exact .int _
  | str => exact .str _
  | lst => simp [DL.sc] at h
  | tup => simp [DL.sc] at h

/-- of the frozen heap: its tuples, and what is younger than the entry -/
def fr (H0 G : Hp) : Hp := fun p => match G p with
  | some (.tup xs) => some (.tup xs)
  | some o => if (H0 p).isNone then some o else none
  | none => none
theorem fr_sub (H0 G : Hp) : Same (fr H0 G) G := fun p o h => by
  unfold fr at h
  split at h
  · rename_i e; rw [e]; exact h
  · rename_i e; split at h
    · rw [e]; exact h
    · cases h
  · cases h
theorem fr_mono {H0 G G' : Hp} (s : Same G G') : Same (fr H0 G) (fr H0 G') := fun p o h => by
  unfold fr at h ⊢
  split at h
  · rename_i e; rw [s _ _ e]; exact h
  · rename_i o' nt e
    split at h
    · rename_i hn
      rw [s _ _ e]
      cases h
      cases o <;> first | rfl | simp [hn]
    · cases h
  · cases h
/-- a list of fr is younger than the entry -/
theorem fr_lst {H0 G : Hp} {p : Addr} {xs : List V} (h : fr H0 G p = some (.lst xs)) : H0 p = none := by
  unfold fr at h
  split at h
  · cases h
  · split at h
    · rename_i hn; simpa using hn
    · cases h
  · cases h
theorem fr_of {H0 G : Hp} {p : Addr} {o : HO} (h : G p = some o) (n : H0 p = none) : fr H0 G p = some o := by
  unfold fr
  rw [h]
  cases o <;> simp [n]
theorem fr_tup {H0 G : Hp} {p : Addr} {xs : List V} (h : G p = some (.tup xs)) : fr H0 G p = some (.tup xs) := by
  unfold fr
  rw [h]

/-- a function's setting: the written part, the heap and its frozen part at the entry, the lists that are its parameters' own; tm: lists in the making -/
structure Cfg where
  K : PySem.W.Frag
  H0 : Hp
  G0 : Hp
  io : List (Nat × Addr)
  tm : List (Addr × HO) := []
abbrev Cfg.wt (c : Cfg) (tm : List (Addr × HO)) : Cfg := { c with tm := tm }
section
variable (c : Cfg)
def Rv (G : Hp) (f : Bool) (v : V) (x : D) : Prop := match f with
  | true => Rs (fr c.H0 G) v x
  | false => Rs G v x
def RvAll (G : Hp) (f : Bool) (vs : List V) (xs : List D) : Prop := match f with
  | true => RsAll (fr c.H0 G) vs xs
  | false => RsAll G vs xs
end
section
variable {c : Cfg} {G G' : Hp} {f : Bool}
theorem Rv.mono {v : V} {x : D} (s : Same G G') (r : Rv c G f v x) : Rv c G' f v x := by
  cases f with
  | true => exact Rs.mono (fr_mono s) r
  | false => exact Rs.mono s r
theorem RvAll.mono {vs : List V} {xs : List D} (s : Same G G') (r : RvAll c G f vs xs) : RvAll c G' f vs xs := by
  cases f with
  | true => exact RsAll.mono (fr_mono s) r
  | false => exact RsAll.mono s r
theorem Rv.rs {v : V} {x : D} (r : Rv c G f v x) : Rs G v x := by
  cases f with
  | true => exact Rs.mono (fr_sub _ _) r
  | false => exact r
theorem RvAll.rs {vs : List V} {xs : List D} (r : RvAll c G f vs xs) : RsAll G vs xs := by
  cases f with
  | true => exact RsAll.mono (fr_sub _ _) r
  | false => exact r
theorem Rv.dp {v : V} {x : D} (r : Rv c G f v x) : Dp c.K G v x := Rs.dp r.rs
theorem RvAll.dp {vs : List V} {xs : List D} (r : RvAll c G f vs xs) : DpAll c.K G vs xs := RsAll.dp r.rs
theorem Rv.weak {v : V} {x : D} (r : Rv c G f v x) (f' : Bool) (h : f' = true → f = true ∨ sc x = true) : Rv c G f' v x := by
  cases f' with
  | false => exact r.rs
  | true =>
    rcases h rfl with h | h
    · subst h; exact r
    · exact dp_sc h r.dp
theorem RvAll.nil : RvAll c G f [] [] := by
  cases f with
  | true => exact .nil
  | false => exact .nil
theorem RvAll.cons {v : V} {x : D} {vs : List V} {xs : List D} (a : Rv c G f v x) (b : RvAll c G f vs xs) : RvAll c G f (v :: vs) (x :: xs) := by
  cases f with
  | true => exact .cons a b
  | false => exact .cons a b
theorem RvAll.uncons {vs : List V} {x : D} {xs : List D} (r : RvAll c G f vs (x :: xs)) : ∃ v vs', vs = v :: vs' ∧ Rv c G f v x ∧ RvAll c G f vs' xs := by
  cases f with
  | true => cases r with | cons a b => exact ⟨_, _, rfl, a, b⟩
  | false => cases r with | cons a b => exact ⟨_, _, rfl, a, b⟩
theorem RvAll.unnil {vs : List V} (r : RvAll c G f vs []) : vs = [] := by
  cases f with
  | true => cases r; rfl
  | false => cases r; rfl
theorem RvAll.length {vs : List V} {xs : List D} (r : RvAll c G f vs xs) : vs.length = xs.length := dpAll_length r.dp
theorem RvAll.get {vs : List V} {xs : List D} (r : RvAll c G f vs xs) : ∀ {i : Nat} {x : D}, xs[i]? = some x → ∃ v, vs[i]? = some v ∧ Rv c G f v x := by
  induction xs generalizing vs with
  | nil => intro i x h; simp at h
  | cons y ys ih =>
    obtain ⟨v, vs', rfl, a, b⟩ := r.uncons
    intro i x h
    cases i with
    | zero => simp at h; subst h; exact ⟨v, rfl, a⟩
    | succ i => simpa using ih b (by simpa using h)
theorem RvAll.append {vs ws : List V} {xs ys : List D} (r : RvAll c G f vs xs) (q : RvAll c G f ws ys) : RvAll c G f (vs ++ ws) (xs ++ ys) := by
  induction xs generalizing vs with
  | nil => rw [r.unnil]; exact q
  | cons y ys' ih =>
    obtain ⟨v, vs', rfl, a, b⟩ := r.uncons
    exact .cons a (ih b)
theorem RvAll.set {vs : List V} {xs : List D} {w : V} {y : D} (q : Rv c G f w y) : ∀ {i : Nat}, RvAll c G f vs xs → RvAll c G f (vs.set i w) (xs.set i y) := by
  induction xs generalizing vs with
  | nil => intro i r; rw [r.unnil]; exact .nil
  | cons x xs ih =>
    intro i r
    obtain ⟨v, vs', rfl, a, b⟩ := r.uncons
    cases i with
    | zero => exact .cons q b
    | succ i => exact .cons a (ih b)
theorem RvAll.weakAll {vs : List V} {xs : List D} (r : RvAll c G f vs xs) (f' : Bool) (h : f' = true → f = true ∨ xs.all sc = true) : RvAll c G f' vs xs := by
  induction xs generalizing vs with
  | nil => rw [r.unnil]; exact .nil
  | cons x xs ih =>
    obtain ⟨v, vs', rfl, a, b⟩ := r.uncons
    refine .cons (a.weak f' fun e => ?_) (ih b fun e => ?_)
    · rcases h e with h | h
      · exact .inl h
      · exact .inr (by simp at h; exact h.1)
    · rcases h e with h | h
      · exact .inl h
      · exact .inr (by simp at h ⊢; exact h.2)
theorem RvAll.take {vs : List V} {xs : List D} (n : Nat) (r : RvAll c G f vs xs) : RvAll c G f (vs.take n) (xs.take n) := by
  induction xs generalizing vs n with
  | nil => rw [r.unnil]; simp; exact .nil
  | cons x xs ih =>
    obtain ⟨v, vs', rfl, a, b⟩ := r.uncons
    cases n with
    | zero => exact .nil
    | succ n => exact .cons a (ih n b)
theorem RvAll.drop {vs : List V} {xs : List D} (n : Nat) (r : RvAll c G f vs xs) : RvAll c G f (vs.drop n) (xs.drop n) := by
  induction xs generalizing vs n with
  | nil => rw [r.unnil]; simp; exact .nil
  | cons x xs ih =>
    obtain ⟨v, vs', rfl, a, b⟩ := r.uncons
    cases n with
    | zero => exact .cons a b
    | succ n => exact ih n b
end

/-- an instance that is not changed any more: its class by its name, its attributes -/
def RvOb (c : Cfg) (G : Hp) (f : Bool) (v : V) (cl : Str) (fs : List (Str × D)) : Prop :=
  ∃ p C dx us, v = .ref p ∧ PySem.W.nsIn c.K mainGlobals cl = some (some (.ref C)) ∧ G p = some (.ins C dx us) ∧ us.map (·.1) = fs.map (·.1) ∧ RvAll c G f (us.map (·.2)) (fs.map (·.2))
theorem RvOb.mono {c : Cfg} {G G' : Hp} {f : Bool} {v : V} {cl : Str} {fs : List (Str × D)} (s : Same G G') (h : RvOb c G f v cl fs) : RvOb c G' f v cl fs := by
  obtain ⟨p, C, dx, us, h1, h2, h3, h4, h5⟩ := h
  exact ⟨p, C, dx, us, h1, h2, s _ _ h3, h4, h5.mono s⟩
theorem RvOb.rs {c : Cfg} {G : Hp} {f : Bool} {v : V} {cl : Str} {fs : List (Str × D)} (h : RvOb c G f v cl fs) : RvOb c G false v cl fs := by
  obtain ⟨p, C, dx, us, h1, h2, h3, h4, h5⟩ := h
  exact ⟨p, C, dx, us, h1, h2, h3, h4, h5.rs⟩
/-! ### slots -/
def Ow (c : Cfg) (G H : Hp) (s : Option V) (i : Nat) (io f : Bool) (xs : List D) : Prop :=
  ∃ p ys, s = some (.ref p) ∧ G p = none ∧ H p = some (.lst ys) ∧ RvAll c G f ys xs ∧ ((io = false ∧ c.H0 p = none) ∨ (io = true ∧ (i, p) ∈ c.io))
def SlOk (c : Cfg) (G H : Hp) (s : Option V) (i : Nat) : Sl → Prop
  | .u => True
  | .v f x => ∃ v, s = some v ∧ Rv c G f v x
  | .o io _ f xs => Ow c G H s i io f xs
  | .s ns => ∃ a, s = some (.ref a) ∧ SqL c.K G a (ns.map V.int)
  | .ob f cl fs => ∃ v, s = some v ∧ RvOb c G f v cl fs
def isOw (e : EnvD) (i : Nat) : Prop := ∃ io lk f xs, e[i]? = some (.o io lk f xs)
structure Rel (c : Cfg) (G H : Hp) (σ : St) (e : EnvD) : Prop where
  g0 : Same c.G0 G
  gh : Same G H
  gn : ∀ p o, G p = some o → c.H0 p ≠ none → c.G0 p = some o
  hf : ∀ p o, c.H0 p = some o → p ∉ c.io.map (·.2) → H p = some o
  io : ∀ i p, (i, p) ∈ c.io → σ[i]? = some (some (.ref p)) ∧ ∃ lk f xs, e[i]? = some (.o true lk f xs)
  len : σ.length = e.length
  sl : ∀ (i : Nat) s t, σ[i]? = some s → e[i]? = some t → SlOk c G H s i t
  dj : ∀ (i j : Nat) p, isOw e i → isOw e j → σ[i]? = some (some (.ref p)) → σ[j]? = some (some (.ref p)) → i = j
  tm : ∀ p o, (p, o) ∈ c.tm → H p = some o ∧ G p = none ∧ ∀ i, isOw e i → σ[i]? ≠ some (some (.ref p))
section
variable {c : Cfg} {G G' H H' : Hp} {σ : St} {e : EnvD}
theorem Rel.at (R : Rel c G H σ e) {i : Nat} {t : Sl} (h : e[i]? = some t) : ∃ s, σ[i]? = some s ∧ SlOk c G H s i t := by
  have hl : i < σ.length := by
    rw [R.len]
    exact (List.getElem?_eq_some_iff.mp h).1
  exact ⟨σ[i], List.getElem?_eq_getElem hl, R.sl i _ t (List.getElem?_eq_getElem hl) h⟩
theorem Rel.frozen (R : Rel c G H σ e) {p : Addr} (h : H p = none) : G p = none := by
  cases q : G p with
  | none => rfl
  | some o => rw [R.gh _ _ q] at h; cases h
theorem Rel.there (R : Rel c G H σ e) {p : Addr} (h : H p = none) : c.H0 p = none := by
  cases q : c.H0 p with
  | none => rfl
  | some o =>
    by_cases m : p ∈ c.io.map (·.2)
    · obtain ⟨⟨i, p'⟩, hm, rfl⟩ := List.mem_map.mp m
      obtain ⟨h1, lk, f, xs, h2⟩ := R.io i p' hm
      obtain ⟨s, hs, q1, ys, e1, _, e3, _⟩ := R.at h2
      rw [hs] at h1
      cases e1
      cases h1
      rw [h] at e3; cases e3
    · rw [R.hf _ _ q m] at h; cases h
theorem Rel.ow (R : Rel c G H σ e) {i : Nat} {io lk f : Bool} {xs : List D} (h : e[i]? = some (.o io lk f xs)) :
    ∃ p ys, σ[i]? = some (some (.ref p)) ∧ G p = none ∧ H p = some (.lst ys) ∧ RvAll c G f ys xs ∧ ((io = false ∧ c.H0 p = none) ∨ (io = true ∧ (i, p) ∈ c.io)) := by
  obtain ⟨s, hs, p, ys, rfl, r⟩ := R.at h
  exact ⟨p, ys, hs, r⟩

/-- the frozen heap grows, the heap grows -/
theorem Ow.grow {s : Option V} {i : Nat} {io f : Bool} {xs : List D} (h : Ow c G H s i io f xs) (sg : Same G G') (kh : ∀ p, s = some (.ref p) → G p = none → G' p = none ∧ H' p = H p) : Ow c G' H' s i io f xs := by
  obtain ⟨p, ys, e1, e2, e3, e4, e5⟩ := h
  obtain ⟨k1, k2⟩ := kh p e1 e2
  exact ⟨p, ys, e1, k1, by rw [k2]; exact e3, e4.mono sg, e5⟩
theorem SlOk.grow {s : Option V} {i : Nat} {t : Sl} (h : SlOk c G H s i t) (sg : Same G G') (kh : ∀ p io lk f xs, t = .o io lk f xs → s = some (.ref p) → G p = none → G' p = none ∧ H' p = H p) : SlOk c G' H' s i t := by
  cases t with
  | u => trivial
  | v f x => obtain ⟨v, e1, r⟩ := h; exact ⟨v, e1, r.mono sg⟩
  | o io lk f xs => exact Ow.grow h sg fun p => kh p io lk f xs rfl
  | s ns => obtain ⟨a, e1, r⟩ := h; exact ⟨a, e1, sg.seq r⟩
  | ob f cl fs => obtain ⟨v, e1, r⟩ := h; exact ⟨v, e1, r.mono sg⟩
/-- a new cell, frozen -/
theorem Rel.newG (R : Rel c G H σ e) {p : Addr} {o : HO} (h : H p = none) : Rel c (upd G p o) (upd H p o) σ e := by
  have gp := R.frozen h
  have h0 := R.there h
  have sg : Same G (upd G p o) := fun q u z => by rw [upd_ne (ne_of_none z gp)]; exact z
  refine ⟨fun q u z => sg _ _ (R.g0 _ _ z), fun q u z => ?_, fun q u z n => ?_, fun q u z m => ?_, R.io, R.len, fun i s t hs ht => (R.sl i s t hs ht).grow sg fun q io lk f xs _ _ gq => ?_, R.dj, fun q ys m => ?_⟩
  · by_cases hq : q = p
    · subst hq; rw [upd_same] at z ⊢; exact z
    · rw [upd_ne hq] at z ⊢; exact R.gh _ _ z
  · by_cases hq : q = p
    · subst hq; exact absurd h0 n
    · rw [upd_ne hq] at z; exact R.gn _ _ z n
  · have hq : q ≠ p := fun z' => by subst z'; rw [h0] at z; cases z
    rw [upd_ne hq]; exact R.hf _ _ z m
  · rename_i a b
    have hq : q ≠ p := fun z' => by
      subst z'
      subst a
      obtain ⟨q', ys, e1, _, e3, _⟩ := R.sl i s _ hs ht
      subst b
      cases e1
      rw [h] at e3; cases e3
    rw [upd_ne hq, upd_ne hq]; exact ⟨gq, rfl⟩
  · obtain ⟨t1, t2, t3⟩ := R.tm q ys m
    have hq := ne_of_none t1 h
    rw [upd_ne hq, upd_ne hq]; exact ⟨t1, t2, t3⟩
/-- a new cell, not frozen -/
theorem Rel.newH (R : Rel c G H σ e) {p : Addr} {o : HO} (h : H p = none) : Rel c G (upd H p o) σ e := by
  have gp := R.frozen h
  have h0 := R.there h
  refine ⟨R.g0, fun q u z => ?_, R.gn, fun q u z m => ?_, R.io, R.len, fun i s t hs ht => (R.sl i s t hs ht).grow (Same.refl _) fun q io lk f xs a b gq => ?_, R.dj, fun q ys m => ?_⟩
  · rw [upd_ne (ne_of_none z gp)]; exact R.gh _ _ z
  · have hq : q ≠ p := fun z' => by subst z'; rw [h0] at z; cases z
    rw [upd_ne hq]; exact R.hf _ _ z m
  · have hq : q ≠ p := fun z' => by
      subst z'
      subst a
      obtain ⟨q', ys, e1, _, e3, _⟩ := R.sl i s _ hs ht
      subst b
      cases e1
      rw [h] at e3; cases e3
    rw [upd_ne hq]; exact ⟨gq, rfl⟩
  · obtain ⟨t1, t2, t3⟩ := R.tm q ys m
    rw [upd_ne (ne_of_none t1 h)]; exact ⟨t1, t2, t3⟩
/-- a cell that no slot owns is frozen -/
theorem Rel.freeze (R : Rel c G H σ e) {p : Addr} {o : HO} (h : H p = some o) (gp : G p = none) (h0 : c.H0 p = none) (no : ∀ i, isOw e i → σ[i]? ≠ some (some (.ref p))) (nt : p ∉ c.tm.map (·.1)) : Rel c (upd G p o) H σ e := by
  have sg : Same G (upd G p o) := fun q u z => by rw [upd_ne (ne_of_none z gp)]; exact z
  refine ⟨fun q u z => sg _ _ (R.g0 _ _ z), fun q u z => ?_, fun q u z n => ?_, R.hf, R.io, R.len, fun i s t hs ht => (R.sl i s t hs ht).grow sg fun q io lk f xs a b gq => ?_, R.dj, fun q ys m => ?_⟩
  · by_cases hq : q = p
    · subst hq; rw [upd_same] at z; cases z; exact h
    · rw [upd_ne hq] at z; exact R.gh _ _ z
  · by_cases hq : q = p
    · subst hq; exact absurd h0 n
    · rw [upd_ne hq] at z; exact R.gn _ _ z n
  · have hq : q ≠ p := fun z' => by
      subst z' a b
      exact no i ⟨_, _, _, _, ht⟩ hs
    rw [upd_ne hq]; exact ⟨gq, rfl⟩
  · obtain ⟨t1, t2, t3⟩ := R.tm q ys m
    have hq : q ≠ p := fun z => by subst z; exact nt (List.mem_map.mpr ⟨_, m, rfl⟩)
    rw [upd_ne hq]; exact ⟨t1, t2, t3⟩
/-- an owned cell is written -/
theorem Rel.write (R : Rel c G H σ e) {i : Nat} {io lk lk' f f' : Bool} {xs ys' : List D} {p : Addr} {ys : List V} (h : e[i]? = some (.o io lk f xs)) (hs : σ[i]? = some (some (.ref p))) (r : RvAll c G f' ys ys') :
    Rel c G (upd H p (.lst ys)) σ (e.set i (.o io lk' f' ys')) := by
  obtain ⟨p', ys0, e1, e2, e3, e4, e5⟩ := R.ow h
  have ep : p' = p := by rw [hs] at e1; cases e1; rfl
  subst ep
  have hi : i < e.length := (List.getElem?_eq_some_iff.mp h).1
  have own : ∀ j, isOw (e.set i (.o io lk' f' ys')) j → isOw e j := fun j ⟨a, b, d, k, z⟩ => by
    by_cases hj : i = j
    · subst hj; exact ⟨_, _, _, _, h⟩
    · rw [List.getElem?_set_ne hj] at z; exact ⟨_, _, _, _, z⟩
  refine ⟨R.g0, fun q u z => ?_, R.gn, fun q u z m => ?_, fun j q hm => ?_, by rw [List.length_set]; exact R.len, fun j s t hs' ht => ?_, fun j k q oj ok => R.dj j k q (own j oj) (own k ok), fun q zs m => ?_⟩
  · rw [upd_ne (ne_of_none z e2)]; exact R.gh _ _ z
  · have hq : q ≠ p' := fun z' => by
      subst z'
      rcases e5 with ⟨_, h0⟩ | ⟨_, hm⟩
      · rw [h0] at z; cases z
      · exact m (List.mem_map.mpr ⟨_, hm, rfl⟩)
    rw [upd_ne hq]; exact R.hf _ _ z m
  · obtain ⟨a, lk3, f2, xs2, b⟩ := R.io j q hm
    refine ⟨a, ?_⟩
    by_cases hj : i = j
    · subst hj
      rw [h] at b
      cases b
      exact ⟨_, _, _, by rw [List.getElem?_set_self hi]⟩
    · exact ⟨_, _, _, by rw [List.getElem?_set_ne hj]; exact b⟩
  · by_cases hj : i = j
    · subst hj
      rw [List.getElem?_set_self hi] at ht
      cases ht
      rw [hs] at hs'
      cases hs'
      exact ⟨p', ys, rfl, e2, upd_same, r, e5⟩
    · rw [List.getElem?_set_ne hj] at ht
      refine (R.sl j s t hs' ht).grow (Same.refl _) fun q io' lk' f2 xs2 a b gq => ⟨gq, ?_⟩
      have hq : q ≠ p' := fun z => by
        subst z a b
        exact hj (R.dj i j q ⟨_, _, _, _, h⟩ ⟨_, _, _, _, ht⟩ hs hs')
      rw [upd_ne hq]
  · obtain ⟨t1, t2, t3⟩ := R.tm q zs m
    have hq : q ≠ p' := fun z => by subst z; exact t3 i ⟨_, _, _, _, h⟩ hs
    rw [upd_ne hq]; exact ⟨t1, t2, fun j oj => t3 j (own j oj)⟩
/-- a slot is let go, or told less -/
theorem Rel.forget (R : Rel c G H σ e) {i : Nat} {t : Sl} (n : ∀ lk f xs, e[i]? ≠ some (.o true lk f xs)) (ht : ∀ s, σ[i]? = some s → SlOk c G H s i t) (hn : ∀ a b d k, t ≠ .o a b d k) : Rel c G H σ (e.set i t) := by
  have own : ∀ j, isOw (e.set i t) j → isOw e j := fun j ⟨a, b, d, k, z⟩ => by
    by_cases hj : i = j
    · subst hj
      by_cases hi : i < e.length
      · rw [List.getElem?_set_self hi] at z; cases z; exact absurd rfl (hn _ _ _ _)
      · rw [List.getElem?_eq_none (by rw [List.length_set]; omega)] at z; cases z
    · rw [List.getElem?_set_ne hj] at z; exact ⟨_, _, _, _, z⟩
  refine ⟨R.g0, R.gh, R.gn, R.hf, fun j q hm => ?_, by rw [List.length_set]; exact R.len, fun j s t' hs ht' => ?_, fun j k q oj ok => R.dj j k q (own j oj) (own k ok), fun q zs m => let ⟨t1, t2, t3⟩ := R.tm q zs m; ⟨t1, t2, fun j oj => t3 j (own j oj)⟩⟩
  · obtain ⟨a, lk, f, xs, b⟩ := R.io j q hm
    have hj : i ≠ j := fun z => by subst z; exact n _ _ _ b
    exact ⟨a, _, _, _, by rw [List.getElem?_set_ne hj]; exact b⟩
  · by_cases hj : i = j
    · subst hj
      have hi : i < e.length := by
        have := (List.getElem?_eq_some_iff.mp hs).1
        rw [R.len] at this; exact this
      rw [List.getElem?_set_self hi] at ht'
      cases ht'
      exact ht s hs
    · rw [List.getElem?_set_ne hj] at ht'
      exact R.sl j s t' hs ht'
theorem upd_self {H : Hp} {p : Addr} {o : HO} (h : H p = some o) : upd H p o = H := by
  funext q
  by_cases hq : q = p
  · subst hq; rw [upd_same, h]
  · rw [upd_ne hq]
/-- a lock is set, or taken -/
theorem Rel.relock (R : Rel c G H σ e) {i : Nat} {io lk f : Bool} {xs : List D} (lk' : Bool) (h : e[i]? = some (.o io lk f xs)) : Rel c G H σ (e.set i (.o io lk' f xs)) := by
  obtain ⟨p, ys, e1, e2, e3, e4, e5⟩ := R.ow h
  have := R.write (lk' := lk') h e1 e4
  rwa [upd_self e3] at this
/-- a slot is stored -/
theorem Rel.put (R : Rel c G H σ e) {i : Nat} {t : Sl} {v : V} (hi : i < e.length) (n : ∀ lk f xs, e[i]? ≠ some (.o true lk f xs)) (ht : SlOk c G H (some v) i t)
    (hd : ∀ io lk f xs, t = .o io lk f xs → (∀ j, j ≠ i → isOw e j → σ[j]? ≠ some (some v)) ∧ ∀ p, v = .ref p → p ∉ c.tm.map (·.1)) : Rel c G H (σ.set i (some v)) (e.set i t) := by
  have hs : i < σ.length := by rw [R.len]; exact hi
  have own : ∀ j, j ≠ i → isOw (e.set i t) j → isOw e j := fun j hj ⟨a, b, d, k, z⟩ => by
    rw [List.getElem?_set_ne (Ne.symm hj)] at z; exact ⟨_, _, _, _, z⟩
  refine ⟨R.g0, R.gh, R.gn, R.hf, fun j q hm => ?_, by rw [List.length_set, List.length_set]; exact R.len, fun j s t' hs' ht' => ?_, fun j k q oj ok hj hk => ?_, fun q zs m => ?_⟩
  · obtain ⟨a, lk, f, xs, b⟩ := R.io j q hm
    have hj : i ≠ j := fun z => by subst z; exact n _ _ _ b
    exact ⟨by rw [List.getElem?_set_ne hj]; exact a, _, _, _, by rw [List.getElem?_set_ne hj]; exact b⟩
  · by_cases hj : i = j
    · subst hj
      rw [List.getElem?_set_self hs] at hs'
      rw [List.getElem?_set_self hi] at ht'
      cases hs'; cases ht'; exact ht
    · rw [List.getElem?_set_ne hj] at hs' ht'
      exact R.sl j s t' hs' ht'
  · by_cases hji : j = i
    · subst hji
      by_cases hki : k = j
      · exact hki.symm
      · rw [List.getElem?_set_self hs] at hj
        rw [List.getElem?_set_ne (Ne.symm hki)] at hk
        obtain ⟨a, b, d, l, z⟩ := oj
        rw [List.getElem?_set_self hi] at z
        cases z
        cases hj
        exact absurd hk ((hd _ _ _ _ rfl).1 k hki (own k hki ok))
    · by_cases hki : k = i
      · subst hki
        rw [List.getElem?_set_self hs] at hk
        rw [List.getElem?_set_ne (Ne.symm hji)] at hj
        obtain ⟨a, b, d, l, z⟩ := ok
        rw [List.getElem?_set_self hi] at z
        cases z
        cases hk
        exact absurd hj ((hd _ _ _ _ rfl).1 j hji (own j hji oj))
      · rw [List.getElem?_set_ne (Ne.symm hji)] at hj
        rw [List.getElem?_set_ne (Ne.symm hki)] at hk
        exact R.dj j k q (own j hji oj) (own k hki ok) hj hk
  · obtain ⟨t1, t2, t3⟩ := R.tm q zs m
    refine ⟨t1, t2, fun j oj z => ?_⟩
    by_cases hji : j = i
    · subst hji
      rw [List.getElem?_set_self hs] at z
      cases z
      obtain ⟨a, b, d, l, zz⟩ := oj
      rw [List.getElem?_set_self hi] at zz
      cases zz
      exact (hd _ _ _ _ rfl).2 q rfl (List.mem_map.mpr ⟨_, m, rfl⟩)
    · rw [List.getElem?_set_ne (Ne.symm hji)] at z
      exact t3 j (own j hji oj) z
end
end DL
end
section
set_option maxHeartbeats 4000000
/-! DL2: expressions. -/
namespace DL
open PySem PySem.Spec PyProof.Rows L2

/-- what an expression gives: frozen data; the value of slot i; a new list that nobody holds yet -/
inductive RV where
  | val (f : Bool) (x : D)
  | own (i : Nat)
  | new (f : Bool) (xs : List D)
  | ext (x : D)
  | ob (f : Bool) (cl : Str) (fs : List (Str × D))
abbrev ME := EnvD → Option (RV × EnvD)
abbrev MT := EnvD → Option (Bool × EnvD)

def RvOk (c : Cfg) (G H : Hp) (σ : St) (e : EnvD) (v : V) : RV → Prop
  | .val f x => Rv c G f v x
  | .own i => σ[i]? = some (some v)
  | .new f xs => ∃ p ys, v = .ref p ∧ G p = none ∧ H p = some (.lst ys) ∧ RvAll c G f ys xs ∧ c.H0 p = none ∧ p ∉ c.tm.map (·.1) ∧ ∀ i, isOw e i → σ[i]? ≠ some (some (.ref p))
  | .ext x => Dp c.K G v x
  | .ob f cl fs => RvOb c G f v cl fs
/-- locked slots stay -/
def Keep (e e' : EnvD) : Prop := ∀ (j : Nat) io f xs, e[j]? = some (.o io true f xs) → e'[j]? = some (.o io true f xs)
theorem Keep.refl (e : EnvD) : Keep e e := fun _ _ _ _ h => h
theorem Keep.trans {a b d : EnvD} (h : Keep a b) (k : Keep b d) : Keep a d := fun j io f xs z => k j io f xs (h j io f xs z)

/-- a reading does at least what the semantics says -/
structure SE (K : PySem.W.Frag) (te : TE) (m : ME) : Prop where
  run : ∀ c : Cfg, c.K = K → ∀ G H σ e, Rel c G H σ e → ∀ r e', m e = some (r, e') → ∀ Q : VK, (∀ v G' H', Same G G' → Rel c G' H' σ e' → RvOk c G' H' σ e' v r → Q v H') → te σ H Q
  keep : ∀ e r e', m e = some (r, e') → Keep e e'
structure ST (K : PySem.W.Frag) (tt : TT) (m : MT) : Prop where
  run : ∀ c : Cfg, c.K = K → ∀ G H σ e, Rel c G H σ e → ∀ b e', m e = some (b, e') → ∀ Q : Bool → Hp → Prop, (∀ G' H', Same G G' → Rel c G' H' σ e' → Q b H') → tt σ H Q
  keep : ∀ e r e', m e = some (r, e') → Keep e e'
def DE (X : Cx) (e : Expr) (m : ME) : Prop := ∃ te, PE X e te ∧ SE X.K te m
def DT (X : Cx) (e : Expr) (m : MT) : Prop := ∃ tt, PT X e tt ∧ ST X.K tt m

/-! ### the data of a value -/
def getD (r : RV) (e : EnvD) : Option D := match r with
  | .val _ x => some x
  | .new _ xs => some (.list xs)
  | .own i => match e[i]? with
    | some (.v _ x) => some x
    | some (.o _ _ _ xs) => some (.list xs)
    | some (.s ns) => some (.list (ns.map PyData.int))
    | _ => none
  | .ext x => some x
  | .ob _ _ _ => none
theorem dp_ints {K : PySem.W.Frag} {H : Hp} : ∀ ns : List Int, DpAll K H (ns.map V.int) (ns.map PyData.int)
  | [] => .nil
  | n :: ns => .cons (.int n) (dp_ints ns)
section
variable {c : Cfg} {G G' H H' : Hp} {σ : St} {e e' : EnvD} {v : V} {r : RV}
theorem getD_ok (R : Rel c G H σ e) (k : RvOk c G H σ e v r) {x : D} (h : getD r e = some x) : Dp c.K H v x := by
  cases r with
  | val f y => cases h; exact dp_mono R.gh (Rv.dp k)
  | new f xs =>
    cases h
    obtain ⟨p, ys, rfl, _, h1, h2, _⟩ := k
    exact .lst (SqL.of h1) (dpAll_mono R.gh h2.dp)
  | own i =>
    have k' : σ[i]? = some (some v) := k
    unfold getD at h
    simp only at h
    split at h
    · rename_i f y he
      cases h
      obtain ⟨s, hs, w, rfl, q⟩ := R.at he
      rw [k'] at hs; cases hs
      exact dp_mono R.gh (Rv.dp q)
    · rename_i io lk f xs he
      cases h
      obtain ⟨p, ys, e1, e2, e3, e4, _⟩ := R.ow he
      rw [k'] at e1; cases e1
      exact .lst (SqL.of e3) (dpAll_mono R.gh e4.dp)
    · rename_i ns he
      cases h
      obtain ⟨s, hs, a, rfl, q⟩ := R.at he
      rw [k'] at hs; cases hs
      exact .lst (R.gh.seq q) (dp_ints ns)
    · cases h
  | ext y => cases h; exact dp_mono R.gh k
  | ob f cl fs => cases h
theorem rv_ints {G : Hp} {f : Bool} : ∀ ns : List Int, RvAll c G f (ns.map V.int) (ns.map PyData.int)
  | [] => .nil
  | n :: ns => .cons (by cases f with | true => exact .int n | false => exact .int n) (rv_ints ns)
/-- the items of a list or tuple (t: a tuple) with their flag -/
def view (r : RV) (e : EnvD) : Option (Bool × Bool × List D) := match r with
  | .val f (.list xs) => some (false, f, xs)
  | .val f (.tuple xs) => some (true, f, xs)
  | .new f xs => some (false, f, xs)
  | .own i => match e[i]? with
    | some (.v f (.list xs)) => some (false, f, xs)
    | some (.v f (.tuple xs)) => some (true, f, xs)
    | some (.o _ _ f xs) => some (false, f, xs)
    | some (.s ns) => some (false, true, ns.map PyData.int)
    | _ => none
  | _ => none
theorem rv_list {f : Bool} {xs : List D} (q : Rv c G f v (.list xs)) : ∃ p ys, v = .ref p ∧ G p = some (.lst ys) ∧ RvAll c G f ys xs := by
  cases f with
  | true => cases q with | lst a b => exact ⟨_, _, rfl, fr_sub _ _ _ _ a, b⟩
  | false => cases q with | lst a b => exact ⟨_, _, rfl, a, b⟩
theorem rv_tuple {f : Bool} {xs : List D} (q : Rv c G f v (.tuple xs)) : ∃ p ys, v = .ref p ∧ G p = some (.tup ys) ∧ RvAll c G f ys xs := by
  cases f with
  | true => cases q with | tup a b => exact ⟨_, _, rfl, fr_sub _ _ _ _ a, b⟩
  | false => cases q with | tup a b => exact ⟨_, _, rfl, a, b⟩
theorem view_ok (R : Rel c G H σ e) (k : RvOk c G H σ e v r) {t f : Bool} {xs : List D} (h : view r e = some (t, f, xs)) :
    ∃ p ys, v = .ref p ∧ RvAll c G f ys xs ∧ (if t = true then SqT c.K H p ys else SqL c.K H p ys) := by
  have vl : ∀ {f xs}, Rv c G f v (.list xs) → ∃ p ys, v = .ref p ∧ RvAll c G f ys xs ∧ SqL c.K H p ys := fun q => by
    obtain ⟨p, ys, e1, e2, e3⟩ := rv_list q; exact ⟨p, ys, e1, e3, SqL.of (R.gh _ _ e2)⟩
  have vt : ∀ {f xs}, Rv c G f v (.tuple xs) → ∃ p ys, v = .ref p ∧ RvAll c G f ys xs ∧ SqT c.K H p ys := fun q => by
    obtain ⟨p, ys, e1, e2, e3⟩ := rv_tuple q; exact ⟨p, ys, e1, e3, SqT.of (R.gh _ _ e2)⟩
  unfold view at h
  split at h
  · cases h; exact vl k
  · cases h; exact vt k
  · cases h
    obtain ⟨p, ys, rfl, _, h1, h2, _⟩ := k
    exact ⟨p, ys, rfl, h2, SqL.of h1⟩
  · rename_i i
    have k' : σ[i]? = some (some v) := k
    split at h
    · rename_i he
      cases h
      obtain ⟨s, hs, w, rfl, q⟩ := R.at he
      rw [k'] at hs; cases hs
      exact vl q
    · rename_i he
      cases h
      obtain ⟨s, hs, w, rfl, q⟩ := R.at he
      rw [k'] at hs; cases hs
      exact vt q
    · rename_i he
      cases h
      obtain ⟨p, ys, e1, e2, e3, e4, _⟩ := R.ow he
      rw [k'] at e1; cases e1
      exact ⟨p, ys, rfl, e4, SqL.of e3⟩
    · rename_i ns he
      cases h
      obtain ⟨s, hs, a, rfl, q⟩ := R.at he
      rw [k'] at hs; cases hs
      exact ⟨a, _, rfl, rv_ints ns, R.gh.seq q⟩
    · cases h
  · cases h
/-- the items of a list that stands by itself -/
def lview (r : RV) (e : EnvD) : Option (Bool × List D) := match r with
  | .val f (.list xs) => some (f, xs)
  | .new f xs => some (f, xs)
  | .own i => match e[i]? with
    | some (.v f (.list xs)) => some (f, xs)
    | some (.o _ _ f xs) => some (f, xs)
    | _ => none
  | _ => none
theorem lview_ok (R : Rel c G H σ e) (k : RvOk c G H σ e v r) {f : Bool} {xs : List D} (h : lview r e = some (f, xs)) :
    ∃ p ys, v = .ref p ∧ RvAll c G f ys xs ∧ H p = some (.lst ys) := by
  have vl : ∀ {f xs}, Rv c G f v (.list xs) → ∃ p ys, v = .ref p ∧ RvAll c G f ys xs ∧ H p = some (.lst ys) := fun q => by
    obtain ⟨p, ys, e1, e2, e3⟩ := rv_list q; exact ⟨p, ys, e1, e3, R.gh _ _ e2⟩
  unfold lview at h
  split at h
  · cases h; exact vl k
  · cases h
    obtain ⟨p, ys, rfl, _, h1, h2, _⟩ := k
    exact ⟨p, ys, rfl, h2, h1⟩
  · rename_i i
    have k' : σ[i]? = some (some v) := k
    split at h
    · rename_i he
      cases h
      obtain ⟨s, hs, w, rfl, q⟩ := R.at he
      rw [k'] at hs; cases hs
      exact vl q
    · rename_i he
      cases h
      obtain ⟨p, ys, e1, e2, e3, e4, _⟩ := R.ow he
      rw [k'] at e1; cases e1
      exact ⟨p, ys, rfl, e4, e3⟩
    · cases h
  · cases h
/-- a value that is no new list lasts -/
def RV.fix : RV → Bool
  | .new _ _ => false
  | _ => true
theorem RvOk.last (k : RvOk c G H σ e v r) (n : r.fix = true) (s : Same G G') : RvOk c G' H' σ e' v r := by
  cases r with
  | val f x => exact Rv.mono s k
  | own i => exact k
  | new f xs => cases n
  | ext x => exact dp_mono s k
  | ob f cl fs => exact RvOb.mono s k

/-! ### settle: a new list is frozen -/
def stl (p : RV × EnvD) : RV × EnvD := match p with
  | (.new f xs, e) => (.val f (.list xs), e)
  | p => p
def settle (m : ME) : ME := fun e => (m e).map stl
theorem stl_fix (r : RV) (e : EnvD) : (stl (r, e)).1.fix = true := by cases r <;> rfl
theorem stl_env (r : RV) (e : EnvD) : (stl (r, e)).2 = e := by cases r <;> rfl
theorem rv_new {f : Bool} {p : Addr} {ys : List V} {xs : List D} (gp : G p = none) (h0 : c.H0 p = none) (q : RvAll c G f ys xs) : Rv c (upd G p (.lst ys)) f (.ref p) (.list xs) := by
  have sg : Same G (upd G p (.lst ys)) := fun q u z => by rw [upd_ne (ne_of_none z gp)]; exact z
  cases f with
  | true => exact .lst (fr_of upd_same h0) (RsAll.mono (fr_mono sg) q)
  | false => exact .lst upd_same (RsAll.mono sg q)
theorem rv_tup {f : Bool} {p : Addr} {ys : List V} {xs : List D} (gp : G p = none) (q : RvAll c G f ys xs) : Rv c (upd G p (.tup ys)) f (.ref p) (.tuple xs) := by
  have sg : Same G (upd G p (.tup ys)) := fun q u z => by rw [upd_ne (ne_of_none z gp)]; exact z
  cases f with
  | true => exact .tup (fr_tup upd_same) (RsAll.mono (fr_mono sg) q)
  | false => exact .tup upd_same (RsAll.mono sg q)
theorem same_new {p : Addr} {o : HO} (gp : G p = none) : Same G (upd G p o) := fun q u z => by rw [upd_ne (ne_of_none z gp)]; exact z
theorem settle_ok {K : PySem.W.Frag} {te : TE} {m : ME} (S : SE K te m) : SE K te (settle m) := by
  refine ⟨fun c hK G H σ e R r e' h Q q => ?_, fun e r e' h => ?_⟩
  · unfold settle at h
    obtain ⟨⟨r0, e0⟩, h0, h1⟩ := Option.map_eq_some_iff.mp h
    cases r0 with
    | new f xs =>
      cases h1
      refine S.run c hK G H σ e R _ _ h0 Q fun v G' H' s R' k => ?_
      obtain ⟨p, ys, rfl, gp, hp, ra, h0', nt, no⟩ := k
      exact q _ (upd G' p (.lst ys)) H' (s.trans (same_new gp)) (R'.freeze hp gp h0' no nt) (rv_new gp h0' ra)
    | val f x => cases h1; exact S.run c hK G H σ e R _ _ h0 Q q
    | own i => cases h1; exact S.run c hK G H σ e R _ _ h0 Q q
    | ext x => cases h1; exact S.run c hK G H σ e R _ _ h0 Q q
    | ob f cl fs => cases h1; exact S.run c hK G H σ e R _ _ h0 Q q
  · unfold settle at h
    obtain ⟨⟨r0, e0⟩, h0, h1⟩ := Option.map_eq_some_iff.mp h
    have := S.keep _ _ _ h0
    cases r0 <;> (cases h1; exact this)
theorem settle_fix {m : ME} {r : RV} (h : settle m e = some (r, e')) : r.fix = true := by
  unfold settle at h
  obtain ⟨⟨r0, e0⟩, h0, h1⟩ := Option.map_eq_some_iff.mp h
  have := stl_fix r0 e0
  rw [h1] at this
  exact this

/-! ### escape: an own list is frozen -/
def esc (p : RV × EnvD) : Option ((Bool × D) × EnvD) := match p with
  | (.val f x, e) => some ((f, x), e)
  | (.new f xs, e) => some ((f, .list xs), e)
  | (.own i, e) => match e[i]? with
    | some (.v f x) => some ((f, x), e)
    | some (.o false false f xs) => some ((f, .list xs), e.set i (.v f (.list xs)))
    | _ => none
  | _ => none
theorem esc_ok (R : Rel c G H σ e) (k : RvOk c G H σ e v r) {f : Bool} {x : D} (h : esc (r, e) = some ((f, x), e')) :
    ∃ G', Same G G' ∧ Rel c G' H σ e' ∧ Rv c G' f v x := by
  cases r with
  | val f y => cases h; exact ⟨G, Same.refl _, R, k⟩
  | new f xs =>
    cases h
    obtain ⟨p, ys, rfl, gp, hp, ra, h0', nt, no⟩ := k
    exact ⟨_, same_new gp, R.freeze hp gp h0' no nt, rv_new gp h0' ra⟩
  | own i =>
    have k' : σ[i]? = some (some v) := k
    unfold esc at h
    simp only at h
    split at h
    · rename_i he
      cases h
      obtain ⟨s, hs, w, rfl, q⟩ := R.at he
      rw [k'] at hs; cases hs
      exact ⟨G, Same.refl _, R, q⟩
    · rename_i f' xs he
      cases h
      obtain ⟨p, ys, e1, gp, hp, ra, h0⟩ := R.ow he
      rw [k'] at e1; cases e1
      have h0' : c.H0 p = none := by
        rcases h0 with ⟨_, z⟩ | ⟨z, _⟩
        · exact z
        · cases z
      have R1 : Rel c G H σ (e.set i .u) := R.forget (fun _ _ _ z => by rw [he] at z; cases z) (fun _ _ => trivial) (fun _ _ _ _ z => by cases z)
      have hi : i < e.length := (List.getElem?_eq_some_iff.mp he).1
      have R2 := R1.freeze hp gp h0' (fun j oj z => by
        by_cases hj : i = j
        · subst hj
          obtain ⟨_, _, _, _, zz⟩ := oj
          rw [List.getElem?_set_self hi] at zz; cases zz
        · obtain ⟨a, b, d, k2, zz⟩ := oj
          rw [List.getElem?_set_ne hj] at zz
          exact hj (R.dj i j p ⟨_, _, _, _, he⟩ ⟨_, _, _, _, zz⟩ k' z)) fun m => by
          obtain ⟨⟨p2, zs⟩, m1, m2⟩ := List.mem_map.mp m
          cases m2
          exact (R.tm _ _ m1).2.2 i ⟨_, _, _, _, he⟩ k'
      have R3 := R2.forget (i := i) (t := .v f (.list xs)) (fun _ _ _ z => by rw [List.getElem?_set_self hi] at z; cases z) (fun s hs => by
        rw [k'] at hs; cases hs
        exact ⟨_, rfl, rv_new gp h0' ra⟩) (fun _ _ _ _ z => by cases z)
      rw [List.set_set] at R3
      exact ⟨_, same_new gp, R3, rv_new gp h0' ra⟩
    · cases h
  | ext x => cases h
  | ob f cl fs => cases h
theorem esc_keep {f : Bool} {x : D} (h : esc (r, e) = some ((f, x), e')) : Keep e e' := by
  cases r with
  | val f y => cases h; exact Keep.refl _
  | new f xs => cases h; exact Keep.refl _
  | own i =>
    unfold esc at h
    simp only at h
    split at h
    · cases h; exact Keep.refl _
    · rename_i he
      cases h
      intro j io f2 xs2 z
      have hj : i ≠ j := fun y => by subst y; rw [he] at z; cases z
      rw [List.getElem?_set_ne hj]; exact z
    · cases h
  | ext x => cases h
  | ob f cl fs => cases h
end
/-- evaluate and escape -/
def mEsc (m : ME) : EnvD → Option ((Bool × D) × EnvD) := fun e => (m e).bind esc
structure SX (K : PySem.W.Frag) (te : TE) (m : EnvD → Option ((Bool × D) × EnvD)) : Prop where
  run : ∀ c : Cfg, c.K = K → ∀ G H σ e, Rel c G H σ e → ∀ f x e', m e = some ((f, x), e') → ∀ Q : VK, (∀ v G' H', Same G G' → Rel c G' H' σ e' → Rv c G' f v x → Q v H') → te σ H Q
  keep : ∀ e r e', m e = some (r, e') → Keep e e'
theorem mEsc_ok {K : PySem.W.Frag} {te : TE} {m : ME} (S : SE K te m) : SX K te (mEsc m) := by
  refine ⟨fun c hK G H σ e R f x e' h Q q => ?_, fun e r e' h => ?_⟩
  · obtain ⟨⟨r, e1⟩, h1, h2⟩ := Option.bind_eq_some_iff.mp h
    refine S.run c hK G H σ e R _ _ h1 Q fun v G' H' s R' k => ?_
    obtain ⟨G2, s2, R2, k2⟩ := esc_ok R' k h2
    exact q v G2 H' (s.trans s2) R2 k2
  · obtain ⟨⟨r1, e1⟩, h1, h2⟩ := Option.bind_eq_some_iff.mp h
    obtain ⟨f, x⟩ := r
    exact (S.keep _ _ _ h1).trans (esc_keep h2)

/-! ### names, constants -/
def mVar (i : Nat) : ME := fun e => match e[i]? with
  | some (.v f x) => some (.val f x, e)
  | some (.o _ _ _ _) => some (.own i, e)
  | some (.s _) => some (.own i, e)
  | some (.ob f cl fs) => some (.ob f cl fs, e)
  | _ => none
theorem mVar_ok {K : PySem.W.Frag} (i : Nat) : SE K (tVar i) (mVar i) := by
  refine ⟨fun c hK G H σ e R r e' h Q q => ?_, fun e r e' h => ?_⟩
  · unfold mVar at h
    split at h
    · rename_i f x he
      cases h
      obtain ⟨s, hs, v, rfl, k⟩ := R.at he
      exact ⟨v, hs, q v G H (Same.refl _) R k⟩
    · rename_i he
      cases h
      obtain ⟨p, ys, e1, _⟩ := R.ow he
      exact ⟨_, e1, q _ G H (Same.refl _) R e1⟩
    · rename_i he
      cases h
      obtain ⟨s, hs, a, rfl, _⟩ := R.at he
      exact ⟨_, hs, q _ G H (Same.refl _) R hs⟩
    · rename_i he
      cases h
      obtain ⟨s, hs, v, rfl, k⟩ := R.at he
      exact ⟨v, hs, q v G H (Same.refl _) R k⟩
    · cases h
  · unfold mVar at h
    split at h <;> cases h <;> exact Keep.refl _
def mC (x : D) : ME := fun e => some (.val true x, e)
theorem mC_ok {K : PySem.W.Frag} {v : V} {x : D} (h : Rs (fun _ => none) v x) (s : sc x = true) : SE K (tC v) (mC x) := by
  refine ⟨fun c hK G H σ e R r e' h' Q q => ?_, fun e r e' h => ?_⟩
  · cases h'
    exact q v G H (Same.refl _) R (dp_sc (K := K) s (Rs.dp h))
  · cases h; exact Keep.refl _
/-- a constant of the written part (a tuple of the module's) -/
def mK (x : D) : ME := fun e => some (.ext x, e)
theorem mK_ok {K : PySem.W.Frag} {v : V} {x : D} (h : Dp K (fun _ => none) v x) : SE K (tC v) (mK x) := by
  refine ⟨fun c hK G H σ e R r e' h' Q q => ?_, fun e r e' h => ?_⟩
  · cases h'
    subst hK
    exact q v G H (Same.refl _) R (dp_mono (fun _ _ z => by cases z) h)
  · cases h; exact Keep.refl _

/-! ### operators that give scalars -/
def mBin (op : D → D → Option D) (a b : ME) : ME := fun e =>
  (settle a e).bind fun p => (settle b p.2).bind fun q => (getD p.1 q.2).bind fun x => (getD q.1 q.2).bind fun y => (op x y).map fun z => (.val true z, q.2)
def OpS (K : PySem.W.Frag) (r : R2) (op : D → D → Option D) : Prop := ∀ H v w x y z, Dp K H v x → Dp K H w y → op x y = some z → ∀ Q : VK, (∀ u, (∀ G, Rs G u z) → Q u H) → r v w H Q
theorem two_ok {K : PySem.W.Frag} {ta tb : TE} {a b : ME} (A : SE K ta a) (B : SE K tb b) {c : Cfg} (hK : c.K = K) {G H : Hp} {σ : St} {e : EnvD} (R : Rel c G H σ e) {r1 r2 : RV} {e1 e2 : EnvD} (h1 : settle a e = some (r1, e1)) (h2 : settle b e1 = some (r2, e2))
    {Q : V → V → Hp → Prop} (q : ∀ v w G' H', Same G G' → Rel c G' H' σ e2 → RvOk c G' H' σ e2 v r1 → RvOk c G' H' σ e2 w r2 → Q v w H') : ta σ H fun v H1 => tb σ H1 fun w H2 => Q v w H2 := by
  refine (settle_ok A).run c hK G H σ e R _ _ h1 _ fun v G1 H1 s1 R1 k1 => ?_
  refine (settle_ok B).run c hK G1 H1 σ e1 R1 _ _ h2 _ fun w G2 H2 s2 R2 k2 => ?_
  exact q v w G2 H2 (s1.trans s2) R2 (k1.last (settle_fix h1) s2) k2
theorem mBin_ok {K : PySem.W.Frag} {r : R2} {op : D → D → Option D} {ta tb : TE} {a b : ME} (O : OpS K r op) (A : SE K ta a) (B : SE K tb b) : SE K (tOp r ta tb) (mBin op a b) := by
  refine ⟨fun c hK G H σ e R r' e' h Q q => ?_, fun e r e' h => ?_⟩
  · obtain ⟨⟨r1, e1⟩, h1, h⟩ := Option.bind_eq_some_iff.mp h
    obtain ⟨⟨r2, e2⟩, h2, h⟩ := Option.bind_eq_some_iff.mp h
    obtain ⟨x, hx, h⟩ := Option.bind_eq_some_iff.mp h
    obtain ⟨y, hy, h⟩ := Option.bind_eq_some_iff.mp h
    obtain ⟨z, hz, h⟩ := Option.map_eq_some_iff.mp h
    cases h
    refine two_ok A B hK R h1 h2 fun v w G' H' s R' k1 k2 => ?_
    subst hK
    exact O H' v w x y z (getD_ok R' k1 hx) (getD_ok R' k2 hy) hz Q fun u hu => q u G' H' s R' (hu _)
  · obtain ⟨⟨r1, e1⟩, h1, h⟩ := Option.bind_eq_some_iff.mp h
    obtain ⟨⟨r2, e2⟩, h2, h⟩ := Option.bind_eq_some_iff.mp h
    obtain ⟨x, hx, h⟩ := Option.bind_eq_some_iff.mp h
    obtain ⟨y, hy, h⟩ := Option.bind_eq_some_iff.mp h
    obtain ⟨z, hz, h⟩ := Option.map_eq_some_iff.mp h
    cases h
    exact ((settle_ok A).keep _ _ _ h1).trans ((settle_ok B).keep _ _ _ h2)
def mUn (op : D → Option D) (a : ME) : ME := fun e => (a e).bind fun p => (getD p.1 p.2).bind fun x => (op x).map fun z => (.val true z, p.2)
def UnS (K : PySem.W.Frag) (r : V → Hp → VK → Prop) (op : D → Option D) : Prop := ∀ H v x z, Dp K H v x → op x = some z → ∀ Q : VK, (∀ u, (∀ G, Rs G u z) → Q u H) → r v H Q
theorem mUn_ok {K : PySem.W.Frag} {r : V → Hp → VK → Prop} {op : D → Option D} {ta : TE} {a : ME} (O : UnS K r op) (A : SE K ta a) : SE K (tUn r ta) (mUn op a) := by
  refine ⟨fun c hK G H σ e R r' e' h Q q => ?_, fun e r e' h => ?_⟩
  · obtain ⟨⟨r1, e1⟩, h1, h⟩ := Option.bind_eq_some_iff.mp h
    obtain ⟨x, hx, h⟩ := Option.bind_eq_some_iff.mp h
    obtain ⟨z, hz, h⟩ := Option.map_eq_some_iff.mp h
    cases h
    refine A.run c hK G H σ e R _ _ h1 _ fun v G1 H1 s1 R1 k1 => ?_
    subst hK
    exact O H1 v x z (getD_ok R1 k1 hx) hz Q fun u hu => q u G1 H1 s1 R1 (hu _)
  · obtain ⟨⟨r1, e1⟩, h1, h⟩ := Option.bind_eq_some_iff.mp h
    obtain ⟨x, hx, h⟩ := Option.bind_eq_some_iff.mp h
    obtain ⟨z, hz, h⟩ := Option.map_eq_some_iff.mp h
    cases h
    exact A.keep _ _ _ h1

/-! ### and, or, not as values; tests -/
def mAnd (a b : ME) : ME := fun e => (a e).bind fun p => match getD p.1 p.2 with
  | some (.bool true) => b p.2
  | some (.bool false) => some (.val true (.bool false), p.2)
  | _ => none
def mOr (a b : ME) : ME := fun e => (a e).bind fun p => match getD p.1 p.2 with
  | some (.bool false) => b p.2
  | some (.bool true) => some (.val true (.bool true), p.2)
  | _ => none
theorem dp_bool {K : PySem.W.Frag} {H : Hp} {v : V} {b : Bool} (h : Dp K H v (.bool b)) : v = .bl b := by cases h; rfl
theorem mAnd_ok {K : PySem.W.Frag} {ta tb : TE} {a b : ME} (A : SE K ta a) (B : SE K tb b) : SE K (tAndV ta tb) (mAnd a b) := by
  refine ⟨fun c hK G H σ e R r' e' h Q q => ?_, fun e r e' h => ?_⟩
  · obtain ⟨⟨r1, e1⟩, h1, h⟩ := Option.bind_eq_some_iff.mp h
    refine A.run c hK G H σ e R _ _ h1 _ fun v G1 H1 s1 R1 k1 => ?_
    simp only at h
    split at h
    · rename_i hb
      refine ⟨true, dp_bool (getD_ok R1 k1 hb), ?_⟩
      rw [if_pos rfl]
      exact B.run c hK G1 H1 σ e1 R1 _ _ h _ fun v G2 H2 s2 R2 k2 => q v G2 H2 (s1.trans s2) R2 k2
    · rename_i hb
      cases h
      refine ⟨false, dp_bool (getD_ok R1 k1 hb), ?_⟩
      rw [if_neg (by decide)]
      exact q _ G1 H1 s1 R1 (.bl _)
    · cases h
  · obtain ⟨⟨r1, e1⟩, h1, h⟩ := Option.bind_eq_some_iff.mp h
    simp only at h
    split at h
    · exact (A.keep _ _ _ h1).trans (B.keep _ _ _ h)
    · cases h; exact A.keep _ _ _ h1
    · cases h
theorem mOr_ok {K : PySem.W.Frag} {ta tb : TE} {a b : ME} (A : SE K ta a) (B : SE K tb b) : SE K (tOrV ta tb) (mOr a b) := by
  refine ⟨fun c hK G H σ e R r' e' h Q q => ?_, fun e r e' h => ?_⟩
  · obtain ⟨⟨r1, e1⟩, h1, h⟩ := Option.bind_eq_some_iff.mp h
    refine A.run c hK G H σ e R _ _ h1 _ fun v G1 H1 s1 R1 k1 => ?_
    simp only at h
    split at h
    · rename_i hb
      refine ⟨false, dp_bool (getD_ok R1 k1 hb), ?_⟩
      rw [if_neg (by decide)]
      exact B.run c hK G1 H1 σ e1 R1 _ _ h _ fun v G2 H2 s2 R2 k2 => q v G2 H2 (s1.trans s2) R2 k2
    · rename_i hb
      cases h
      refine ⟨true, dp_bool (getD_ok R1 k1 hb), ?_⟩
      rw [if_pos rfl]
      exact q _ G1 H1 s1 R1 (.bl _)
    · cases h
  · obtain ⟨⟨r1, e1⟩, h1, h⟩ := Option.bind_eq_some_iff.mp h
    simp only at h
    split at h
    · exact (A.keep _ _ _ h1).trans (B.keep _ _ _ h)
    · cases h; exact A.keep _ _ _ h1
    · cases h
def mNot (a : ME) : ME := fun e => (a e).bind fun p => match getD p.1 p.2 with
  | some (.bool b) => some (.val true (.bool (!b)), p.2)
  | _ => none
theorem mNot_ok {K : PySem.W.Frag} {ta : TE} {a : ME} (A : SE K ta a) : SE K (tNotV ta) (mNot a) := by
  refine ⟨fun c hK G H σ e R r' e' h Q q => ?_, fun e r e' h => ?_⟩
  · obtain ⟨⟨r1, e1⟩, h1, h⟩ := Option.bind_eq_some_iff.mp h
    refine A.run c hK G H σ e R _ _ h1 _ fun v G1 H1 s1 R1 k1 => ?_
    simp only at h
    split at h
    · rename_i hb
      cases h
      exact ⟨_, dp_bool (getD_ok R1 k1 hb), q _ G1 H1 s1 R1 (.bl _)⟩
    · cases h
  · obtain ⟨⟨r1, e1⟩, h1, h⟩ := Option.bind_eq_some_iff.mp h
    simp only at h
    split at h
    · cases h; exact A.keep _ _ _ h1
    · cases h
/-- a test by a value that is True or False -/
def tst (m : ME) : MT := fun e => (m e).bind fun p => match getD p.1 p.2 with
  | some (.bool b) => some (b, p.2)
  | _ => none
theorem tst_ok {K : PySem.W.Frag} {ta : TE} {a : ME} (A : SE K ta a) : ST K (tB ta) (tst a) := by
  refine ⟨fun c hK G H σ e R r' e' h Q q => ?_, fun e r e' h => ?_⟩
  · obtain ⟨⟨r1, e1⟩, h1, h⟩ := Option.bind_eq_some_iff.mp h
    refine A.run c hK G H σ e R _ _ h1 _ fun v G1 H1 s1 R1 k1 => ?_
    simp only at h
    split at h
    · rename_i hb
      cases h
      exact ⟨_, dp_bool (getD_ok R1 k1 hb), q G1 H1 s1 R1⟩
    · cases h
  · obtain ⟨⟨r1, e1⟩, h1, h⟩ := Option.bind_eq_some_iff.mp h
    simp only at h
    split at h
    · cases h; exact A.keep _ _ _ h1
    · cases h
def mtAnd (a b : MT) : MT := fun e => (a e).bind fun p => if p.1 = true then b p.2 else some (false, p.2)
def mtOr (a b : MT) : MT := fun e => (a e).bind fun p => if p.1 = true then some (true, p.2) else b p.2
def mtNot (a : MT) : MT := fun e => (a e).map fun p => (!p.1, p.2)
theorem mtAnd_ok {K : PySem.W.Frag} {ta tb : TT} {a b : MT} (A : ST K ta a) (B : ST K tb b) : ST K (tAnd ta tb) (mtAnd a b) := by
  refine ⟨fun c hK G H σ e R r' e' h Q q => ?_, fun e r e' h => ?_⟩
  · obtain ⟨⟨b1, e1⟩, h1, h⟩ := Option.bind_eq_some_iff.mp h
    refine A.run c hK G H σ e R _ _ h1 _ fun G1 H1 s1 R1 => ?_
    cases b1 with
    | true =>
      rw [if_pos rfl]
      exact B.run c hK G1 H1 σ e1 R1 _ _ h _ fun G2 H2 s2 R2 => q G2 H2 (s1.trans s2) R2
    | false =>
      rw [if_neg (by decide)]
      cases h
      exact q G1 H1 s1 R1
  · obtain ⟨⟨b1, e1⟩, h1, h⟩ := Option.bind_eq_some_iff.mp h
    cases b1 with
    | true => exact (A.keep _ _ _ h1).trans (B.keep _ _ _ h)
    | false => cases h; exact A.keep _ _ _ h1
theorem mtOr_ok {K : PySem.W.Frag} {ta tb : TT} {a b : MT} (A : ST K ta a) (B : ST K tb b) : ST K (tOr ta tb) (mtOr a b) := by
  refine ⟨fun c hK G H σ e R r' e' h Q q => ?_, fun e r e' h => ?_⟩
  · obtain ⟨⟨b1, e1⟩, h1, h⟩ := Option.bind_eq_some_iff.mp h
    refine A.run c hK G H σ e R _ _ h1 _ fun G1 H1 s1 R1 => ?_
    cases b1 with
    | true =>
      rw [if_pos rfl]
      cases h
      exact q G1 H1 s1 R1
    | false =>
      rw [if_neg (by decide)]
      exact B.run c hK G1 H1 σ e1 R1 _ _ h _ fun G2 H2 s2 R2 => q G2 H2 (s1.trans s2) R2
  · obtain ⟨⟨b1, e1⟩, h1, h⟩ := Option.bind_eq_some_iff.mp h
    cases b1 with
    | true => cases h; exact A.keep _ _ _ h1
    | false => exact (A.keep _ _ _ h1).trans (B.keep _ _ _ h)
theorem mtNot_ok {K : PySem.W.Frag} {ta : TT} {a : MT} (A : ST K ta a) : ST K (tNot ta) (mtNot a) := by
  refine ⟨fun c hK G H σ e R r' e' h Q q => ?_, fun e r e' h => ?_⟩
  · obtain ⟨⟨b1, e1⟩, h1, h⟩ := Option.map_eq_some_iff.mp h
    cases h
    exact A.run c hK G H σ e R _ _ h1 _ fun G1 H1 s1 R1 => q G1 H1 s1 R1
  · obtain ⟨⟨b1, e1⟩, h1, h⟩ := Option.map_eq_some_iff.mp h
    cases h
    exact A.keep _ _ _ h1
end DL
end
section
set_option maxHeartbeats 4000000
/-! DL3: operators by data, displays, places, slices, built-in calls. -/
namespace DL
open PySem PySem.Spec PyProof.Rows L2

/-! ### operators on ints -/
def dII (f : Int → Int → Option D) : D → D → Option D
  | .int i, .int j => f i j
  | _, _ => none
theorem dII_ok {f : Int → Int → Option D} {x y z : D} (h : dII f x y = some z) : ∃ i j, x = .int i ∧ y = .int j ∧ f i j = some z := by
  unfold dII at h
  split at h
  · exact ⟨_, _, rfl, rfl, h⟩
  · cases h
theorem dp_int {K : PySem.W.Frag} {H : Hp} {v : V} {i : Int} (h : Dp K H v (.int i)) : v = .int i := by cases h; rfl
theorem dp_str {K : PySem.W.Frag} {H : Hp} {v : V} {i : Str} (h : Dp K H v (.str i)) : v = .str i := by cases h; rfl
theorem dp_none {K : PySem.W.Frag} {H : Hp} {v : V} (h : Dp K H v .none) : v = .non := by cases h; rfl
theorem opS_II {K : PySem.W.Frag} {C : Int → Int → Prop} [∀ i j, Decidable (C i j)] {g : Int → Int → V} {k : Int → Int → D} (hk : ∀ i j G, Rs G (g i j) (k i j)) :
    OpS K (rI C g) (dII fun i j => if C i j then some (k i j) else none) := by
  intro H v w x y z hx hy h Q q
  obtain ⟨i, j, rfl, rfl, h'⟩ := dII_ok h
  clear h
  have h := h'
  rw [dp_int hx, dp_int hy]
  by_cases c : C i j
  · rw [if_pos c] at h; cases h; exact ⟨i, j, rfl, rfl, c, q _ (hk i j)⟩
  · rw [if_neg c] at h; cases h
theorem opS_II0 {K : PySem.W.Frag} {g : Int → Int → V} {k : Int → Int → D} (hk : ∀ i j G, Rs G (g i j) (k i j)) : OpS K (rI0 g) (dII fun i j => some (k i j)) := by
  intro H v w x y z hx hy h Q q
  obtain ⟨i, j, rfl, rfl, h⟩ := dII_ok h
  rw [dp_int hx, dp_int hy]
  cases h; exact ⟨i, j, rfl, rfl, q _ (hk i j)⟩
instance (i j : Int) : Decidable (CMul i j) := by unfold CMul; infer_instance
instance (i j : Int) : Decidable (CDiv i j) := by unfold CDiv; infer_instance
instance (i j : Int) : Decidable (CPow i j) := by unfold CPow; infer_instance
def dSub : D → D → Option D := dII fun i j => some (.int (i - j))
def dMul : D → D → Option D := dII fun i j => if CMul i j then some (.int (i * j)) else none
def dFdiv : D → D → Option D := dII fun i j => if CDiv i j then some (.int (i / j)) else none
def dMod : D → D → Option D := dII fun i j => if 0 < j then some (.int (i % j)) else none
def dPow : D → D → Option D := dII fun i j => if CPow i j then some (.int (i ^ j.toNat)) else none
def dShl : D → D → Option D := dII fun i j => if CPow i j then some (.int (i * 2 ^ j.toNat)) else none
def dShr : D → D → Option D := dII fun i j => if 0 ≤ j then some (.int (i / 2 ^ j.toNat)) else none
def dBand : D → D → Option D := dII fun i j => some (.int (Builtin.bitAnd i j))
def dLt : D → D → Option D := dII fun i j => some (.bool (decide (i < j)))
def dLe : D → D → Option D := dII fun i j => some (.bool (decide (i ≤ j)))
def dGt : D → D → Option D := dII fun i j => some (.bool (decide (j < i)))
def dGe : D → D → Option D := dII fun i j => some (.bool (decide (j ≤ i)))
section
variable {K : PySem.W.Frag}
theorem os_sub : OpS K (rI0 fun i j => .int (i - j)) dSub := opS_II0 fun _ _ _ => .int _
theorem os_mul : OpS K (rI CMul fun i j => .int (i * j)) dMul := opS_II fun _ _ _ => .int _
theorem os_fdiv : OpS K (rI CDiv fun i j => .int (i / j)) dFdiv := opS_II fun _ _ _ => .int _
theorem os_mod : OpS K (rI (fun _ j => 0 < j) fun i j => .int (i % j)) dMod := opS_II (C := fun _ j => 0 < j) fun _ _ _ => .int _
theorem os_pow : OpS K (rI CPow fun i j => .int (i ^ j.toNat)) dPow := opS_II fun _ _ _ => .int _
theorem os_shl : OpS K (rI CPow fun i j => .int (i * 2 ^ j.toNat)) dShl := opS_II fun _ _ _ => .int _
theorem os_shr : OpS K (rI (fun _ j => 0 ≤ j) fun i j => .int (i / 2 ^ j.toNat)) dShr := opS_II (C := fun _ j => 0 ≤ j) fun _ _ _ => .int _
theorem os_band : OpS K (rI0 fun i j => .int (Builtin.bitAnd i j)) dBand := opS_II0 fun _ _ _ => .int _
theorem os_lt : OpS K (rI0 fun i j => .bl (decide (i < j))) dLt := opS_II0 fun _ _ _ => .bl _
theorem os_le : OpS K (rI0 fun i j => .bl (decide (i ≤ j))) dLe := opS_II0 fun _ _ _ => .bl _
theorem os_gt : OpS K (rI0 fun i j => .bl (decide (j < i))) dGt := opS_II0 fun _ _ _ => .bl _
theorem os_ge : OpS K (rI0 fun i j => .bl (decide (j ≤ i))) dGe := opS_II0 fun _ _ _ => .bl _
/-- ==, != -/
def dEq (x y : D) : Option D := if SeqAt.shaped x = true ∧ SeqAt.shaped y = true then some (.bool (PyData.eqv x y)) else none
def dNe (x y : D) : Option D := if SeqAt.shaped x = true ∧ SeqAt.shaped y = true then some (.bool (!PyData.eqv x y)) else none
theorem os_eq : OpS K (rEqD K) dEq := by
  intro H v w x y z hx hy h Q q
  unfold dEq at h
  split at h
  · rename_i c; cases h; exact ⟨x, y, hx, hy, c.1, c.2, q _ fun G => .bl _⟩
  · cases h
theorem os_ne : OpS K (rNeD K) dNe := by
  intro H v w x y z hx hy h Q q
  unfold dNe at h
  split at h
  · rename_i c; cases h; exact ⟨x, y, hx, hy, c.1, c.2, q _ fun G => .bl _⟩
  · cases h
/-- is, is not: of None, of truths -/
def dIs : D → D → Option D
  | x, .none => some (.bool (match x with | .none => true | _ => false))
  | .bool a, .bool b => some (.bool (decide (a = b)))
  | .none, .bool _ => some (.bool false)
  | _, _ => none
def dIsNot (x y : D) : Option D := match dIs x y with
  | some (.bool b) => some (.bool (!b))
  | _ => none
def rIsA : R2 := fun x y H Q => (y = .non ∧ Q (.bl (decide (x = .non))) H) ∨ rIsB x y H Q ∨ (x = .non ∧ (∃ b, y = .bl b) ∧ Q (.bl false) H)
def rIsNA : R2 := fun x y H Q => (y = .non ∧ Q (.bl (!decide (x = .non))) H) ∨ rNotB x y H Q ∨ (x = .non ∧ (∃ b, y = .bl b) ∧ Q (.bl true) H)
theorem os_is : OpS K rIsA dIs := by
  intro H v w x y z hx hy h Q q
  unfold dIs at h
  split at h
  · cases h
    refine .inl ⟨dp_none hy, ?_⟩
    cases hx <;> exact q _ fun G => .bl _
  · cases h
    exact .inr (.inl ⟨_, _, dp_bool hx, dp_bool hy, q _ fun G => .bl _⟩)
  · cases h
    exact .inr (.inr ⟨dp_none hx, ⟨_, dp_bool hy⟩, q _ fun G => .bl _⟩)
  · cases h
theorem os_isNot : OpS K rIsNA dIsNot := by
  intro H v w x y z hx hy h Q q
  unfold dIsNot at h
  split at h
  · rename_i b hb
    cases h
    unfold dIs at hb
    split at hb
    · cases hb
      refine .inl ⟨dp_none hy, ?_⟩
      cases hx <;> exact q _ fun G => .bl _
    · cases hb
      exact .inr (.inl ⟨_, _, dp_bool hx, dp_bool hy, q _ fun G => .bl _⟩)
    · cases hb
      exact .inr (.inr ⟨dp_none hx, ⟨_, dp_bool hy⟩, q _ fun G => .bl _⟩)
    · cases hb
  · cases h
theorem op_isA {X : Cx} : OpR X (compareOp .Is) rIsA := by
  refine OpR.or op_isN (OpR.or op_isBl ?_)
  intro pins s σ H x y v u Q I rx ry h
  obtain ⟨rfl, ⟨b, rfl⟩, q⟩ := h
  cases (show v = Value.none from rx)
  cases (show u = Value.bool b from ry)
  exact wpAny_is_other rfl (fun z => nomatch z) ⟨.bl false, H, I, rfl, q⟩
theorem op_isNA {X : Cx} : OpR X (compareOp .IsNot) rIsNA := by
  refine OpR.or op_notN (OpR.or op_notBl ?_)
  intro pins s σ H x y v u Q I rx ry h
  obtain ⟨rfl, ⟨b, rfl⟩, q⟩ := h
  cases (show v = Value.none from rx)
  cases (show u = Value.bool b from ry)
  exact wpAny_isNot_other rfl (fun z => nomatch z) ⟨.bl true, H, I, rfl, q⟩
/-- in, not in: a list of data, a tuple of flat data, a text in a text -/
def dMem (x : D) (xs : List D) : Bool := xs.any fun y => PyData.eqv y x
def dIn (neg : Bool) : D → D → Option D
  | .str i, .str j => some (.bool (if neg then !(!(Builtin.Str.occurrences j i 0 j.length 1).isEmpty) else !(Builtin.Str.occurrences j i 0 j.length 1).isEmpty))
  | x, .list xs => if SeqAt.shaped x = true ∧ SeqAt.shaped (.list xs) = true then some (.bool (if neg then !dMem x xs else dMem x xs)) else none
  | x, .tuple xs => if sc x = true ∧ xs.all sc = true then some (.bool (if neg then !dMem x xs else dMem x xs)) else none
  | _, _ => none
def rInA (K : PySem.W.Frag) : R2 := fun x y H Q => (∃ i j, x = .str i ∧ y = .str j ∧ Q (.bl (!(Builtin.Str.occurrences j i 0 j.length 1).isEmpty)) H) ∨ rInD K x y H Q ∨ rIn K false x y H Q
def rNotInA (K : PySem.W.Frag) : R2 := fun x y H Q => (∃ i j, x = .str i ∧ y = .str j ∧ Q (.bl (!(!(Builtin.Str.occurrences j i 0 j.length 1).isEmpty))) H) ∨ rNotInD K x y H Q ∨ rIn K true x y H Q
theorem dp_sc_flat {H : Hp} {v : V} {x : D} (h : sc x = true) (r : Dp K H v x) : flatV v = true := by
  cases r <;> first | rfl | simp [sc] at h
theorem dpAll_flat {H : Hp} : ∀ {xs : List D} {vs : List V}, xs.all sc = true → DpAll K H vs xs → vs.all flatV = true
  | [], _, _, h => by cases h; rfl
  | x :: xs, _, n, h => by
    simp only [List.all_cons, Bool.and_eq_true] at n
    cases h with
    | cons a b => simp only [List.all_cons, Bool.and_eq_true]; exact ⟨dp_sc_flat n.1 a, dpAll_flat n.2 b⟩
theorem eqV_sc {H : Hp} {v w : V} {x y : D} (hx : sc x = true) (hy : sc y = true) (r : Dp K H v x) (q : Dp K H w y) : eqV w v = PyData.eqv y x := by
  cases r <;> cases q <;> first | rfl | (simp [sc] at hx; done) | (simp [sc] at hy; done) | (simp [eqV, PyData.eqv]; done)
theorem inV_sc {H : Hp} {v : V} {x : D} (hx : sc x = true) (r : Dp K H v x) : ∀ {xs : List D} {vs : List V}, xs.all sc = true → DpAll K H vs xs → inV v vs = dMem x xs
  | [], _, _, h => by cases h; rfl
  | y :: ys, _, n, h => by
    simp only [List.all_cons, Bool.and_eq_true] at n
    cases h with
    | cons a b =>
      have ih := inV_sc hx r n.2 b
      unfold inV dMem at ih ⊢
      rw [List.any_cons, List.any_cons, eqV_sc hx n.1 r a, ih]
theorem os_in : OpS K (rInA K) (dIn false) := by
  intro H v w x y z hx hy h Q q
  unfold dIn at h
  split at h
  · cases h; exact .inl ⟨_, _, dp_str hx, dp_str hy, q _ fun G => .bl _⟩
  · split at h
    · rename_i c; cases h; exact .inr (.inl ⟨_, _, hx, hy, c.1, c.2, q _ fun G => .bl _⟩)
    · cases h
  · split at h
    · rename_i c
      cases h
      cases hy with
      | tup a b =>
        refine .inr (.inr ⟨_, _, rfl, .inr a, dp_sc_flat c.1 hx, dpAll_flat c.2 b, ?_⟩)
        rw [inV_sc c.1 hx c.2 b]
        exact q _ fun G => .bl _
    · cases h
  · cases h
theorem os_notIn : OpS K (rNotInA K) (dIn true) := by
  intro H v w x y z hx hy h Q q
  unfold dIn at h
  split at h
  · cases h; exact .inl ⟨_, _, dp_str hx, dp_str hy, q _ fun G => .bl _⟩
  · split at h
    · rename_i c; cases h; exact .inr (.inl ⟨_, _, hx, hy, c.1, c.2, q _ fun G => .bl _⟩)
    · cases h
  · split at h
    · rename_i c
      cases h
      cases hy with
      | tup a b =>
        refine .inr (.inr ⟨_, _, rfl, .inr a, dp_sc_flat c.1 hx, dpAll_flat c.2 b, ?_⟩)
        rw [inV_sc c.1 hx c.2 b]
        exact q _ fun G => .bl _
    · cases h
  · cases h
theorem op_inA {X : Cx} (hu : X.A.units + 65 < cLine) : OpR X (compareOp .In) (rInA X.K) := OpR.or op_in_str (OpR.or (op_inD hu) op_in_seq)
theorem op_notInA {X : Cx} (hu : X.A.units + 65 < cLine) : OpR X (compareOp .NotIn) (rNotInA X.K) := OpR.or op_notin_str (OpR.or (op_notInD hu) op_notIn_seq)
/-- -x -/
def dNeg : D → Option D
  | .int i => some (.int (-i))
  | _ => none
theorem us_neg : UnS K (rU fun i => .int (-i)) dNeg := by
  intro H v x z hx h Q q
  unfold dNeg at h
  split at h
  · cases h; exact ⟨_, dp_int hx, q _ fun G => .int _⟩
  · cases h

/-! ### + -/
/-- two texts, two ints: a scalar; two lists: a new one -/
def dAddS : D → D → Option D
  | .int i, .int j => some (.int (i + j))
  | .str i, .str j => if i.length + j.length ≤ sizeLine then some (.str (i ++ j)) else none
  | _, _ => none
def mAdd (a b : ME) : ME := fun e =>
  (settle a e).bind fun p => (settle b p.2).bind fun q => match lview p.1 q.2, lview q.1 q.2 with
    | some (f, xs), some (f', ys) => if xs.length + ys.length ≤ sizeLine then some (.new ((f || xs.all sc) && (f' || ys.all sc)) (xs ++ ys), q.2) else none
    | _, _ => (getD p.1 q.2).bind fun x => (getD q.1 q.2).bind fun y => (dAddS x y).map fun z => (.val true z, q.2)
def rAddA : R2 := fun x y H Q => (rI0 fun i j => .int (i + j)) x y H Q ∨ (∃ i j, x = .str i ∧ y = .str j ∧ i.length + j.length ≤ sizeLine ∧ Q (.str (i ++ j)) H) ∨ rCat x y H Q
theorem op_addA {X : Cx} : OpR X (binaryOp .Add) rAddA := OpR.or op_add (OpR.or op_add_str op_cat)
theorem rvOk_new {c : Cfg} {G H : Hp} {σ : St} {e : EnvD} (R : Rel c G H σ e) {p : Addr} (hp : H p = none) {f : Bool} {ys : List V} {xs : List D} (q : RvAll c G f ys xs) :
    Rel c G (upd H p (.lst ys)) σ e ∧ RvOk c G (upd H p (.lst ys)) σ e (.ref p) (.new f xs) := by
  refine ⟨R.newH hp, p, ys, rfl, R.frozen hp, upd_same, q, R.there hp, fun m => ?_, fun i ⟨io, lk, f2, xs2, he⟩ z => ?_⟩
  · obtain ⟨⟨p2, zs⟩, m1, m2⟩ := List.mem_map.mp m
    cases m2
    have := (R.tm _ _ m1).1
    rw [hp] at this; cases this
  obtain ⟨p', ys', e1, _, e3, _⟩ := R.ow he
  rw [z] at e1; cases e1
  rw [hp] at e3; cases e3
theorem keep_two {K : PySem.W.Frag} {ta tb : TE} {a b : ME} (A : SE K ta a) (B : SE K tb b) {e e1 e2 : EnvD} {r1 r2 : RV} (h1 : settle a e = some (r1, e1)) (h2 : settle b e1 = some (r2, e2)) : Keep e e2 :=
  ((settle_ok A).keep _ _ _ h1).trans ((settle_ok B).keep _ _ _ h2)
theorem mAdd_ok {ta tb : TE} {a b : ME} (A : SE K ta a) (B : SE K tb b) : SE K (tOp rAddA ta tb) (mAdd a b) := by
  refine ⟨fun c hK G H σ e R r' e' h Q q => ?_, fun e r e' h => ?_⟩
  · obtain ⟨⟨r1, e1⟩, h1, h⟩ := Option.bind_eq_some_iff.mp h
    obtain ⟨⟨r2, e2⟩, h2, h⟩ := Option.bind_eq_some_iff.mp h
    refine two_ok A B hK R h1 h2 fun v w G' H' s R' k1 k2 => ?_
    simp only at h
    split at h
    · rename_i f xs f' ys hx hy
      split at h
      · rename_i hz
        cases h
        obtain ⟨p, us, rfl, q1, hp⟩ := lview_ok R' k1 hx
        obtain ⟨p', us', rfl, q2, hp'⟩ := lview_ok R' k2 hy
        refine .inr (.inr ⟨p, p', us, us', rfl, rfl, hp, hp', ?_, fun l hl => ?_⟩)
        · rw [q1.length, q2.length]; exact hz
        · have qq : RvAll c G' ((f || xs.all sc) && (f' || ys.all sc)) (us ++ us') (xs ++ ys) := by
            refine RvAll.append (q1.weakAll _ fun z => ?_) (q2.weakAll _ fun z => ?_)
            · rw [Bool.and_eq_true, Bool.or_eq_true] at z; exact z.1
            · rw [Bool.and_eq_true, Bool.or_eq_true, Bool.or_eq_true] at z; exact z.2
          obtain ⟨R2, k⟩ := rvOk_new R' hl qq
          exact q _ G' _ s R2 k
      · cases h
    · obtain ⟨x, hx, h⟩ := Option.bind_eq_some_iff.mp h
      obtain ⟨y, hy, h⟩ := Option.bind_eq_some_iff.mp h
      obtain ⟨z, hz, h⟩ := Option.map_eq_some_iff.mp h
      cases h
      have d1 := getD_ok R' k1 hx
      have d2 := getD_ok R' k2 hy
      unfold dAddS at hz
      split at hz
      · cases hz
        exact .inl ⟨_, _, dp_int d1, dp_int d2, q _ G' H' s R' (.int _)⟩
      · split at hz
        · rename_i hl
          cases hz
          exact .inr (.inl ⟨_, _, dp_str d1, dp_str d2, hl, q _ G' H' s R' (.str _)⟩)
        · cases hz
      · cases hz
  · obtain ⟨⟨r1, e1⟩, h1, h⟩ := Option.bind_eq_some_iff.mp h
    obtain ⟨⟨r2, e2⟩, h2, h⟩ := Option.bind_eq_some_iff.mp h
    have kk := keep_two A B h1 h2
    simp only at h
    split at h
    · split at h
      · cases h; exact kk
      · cases h
    · obtain ⟨x, hx, h⟩ := Option.bind_eq_some_iff.mp h
      obtain ⟨y, hy, h⟩ := Option.bind_eq_some_iff.mp h
      obtain ⟨z, hz, h⟩ := Option.map_eq_some_iff.mp h
      cases h; exact kk

/-! ### a[i] -/
def dIxS (z : Str) (i : Int) : Option D := if z.length ≤ sizeLine then (atI z.cps.toList i).map fun c => .str ⟨#[c]⟩ else none
def mIx (a b : ME) : ME := fun e =>
  (settle a e).bind fun p => (settle b p.2).bind fun q => match getD q.1 q.2 with
    | some (.int i) => (match view p.1 q.2 with
      | some (_, f, xs) => (atI xs i).map fun x => (.val f x, q.2)
      | none => match getD p.1 q.2 with
        | some (.str z) => (dIxS z i).map fun x => (.val true x, q.2)
        | _ => none)
    | _ => none
theorem atI_rv {c : Cfg} {G : Hp} {f : Bool} {vs : List V} {xs : List D} (r : RvAll c G f vs xs) {i : Int} {x : D} (h : atI xs i = some x) : ∃ v, atI vs i = some v ∧ Rv c G f v x := by
  unfold atI at h ⊢
  rw [r.length]
  obtain ⟨j, h1, h2⟩ := Option.bind_eq_some_iff.mp h
  rw [h1]
  exact r.get h2
theorem mIx_ok {ta tb : TE} {a b : ME} (A : SE K ta a) (B : SE K tb b) : SE K (tOp (rIx K) ta tb) (mIx a b) := by
  refine ⟨fun c hK G H σ e R r' e' h Q q => ?_, fun e r e' h => ?_⟩
  · obtain ⟨⟨r1, e1⟩, h1, h⟩ := Option.bind_eq_some_iff.mp h
    obtain ⟨⟨r2, e2⟩, h2, h⟩ := Option.bind_eq_some_iff.mp h
    refine two_ok A B hK R h1 h2 fun v w G' H' s R' k1 k2 => ?_
    subst hK
    simp only at h
    split at h
    · rename_i i hi
      have d2 := dp_int (getD_ok R' k2 hi)
      split at h
      · rename_i t f xs hv
        obtain ⟨x, hx, h⟩ := Option.map_eq_some_iff.mp h
        cases h
        obtain ⟨p, us, rfl, q1, hs⟩ := view_ok R' k1 hv
        obtain ⟨u, hu, ru⟩ := atI_rv q1 hx
        cases t with
        | true => exact .inr (.inl ⟨p, us, i, u, rfl, d2, hs, hu, q _ G' H' s R' ru⟩)
        | false => exact .inl ⟨p, us, i, u, rfl, d2, hs, hu, q _ G' H' s R' ru⟩
      · split at h
        · rename_i z hz
          obtain ⟨x, hx, h⟩ := Option.map_eq_some_iff.mp h
          cases h
          have d1 := dp_str (getD_ok R' k1 hz)
          unfold dIxS at hx
          split at hx
          · rename_i hl
            obtain ⟨cc, hc, hx⟩ := Option.map_eq_some_iff.mp hx
            cases hx
            exact .inr (.inr ⟨z, i, cc, d1, d2, hl, hc, q _ G' H' s R' (.str _)⟩)
          · cases hx
        · cases h
    · cases h
  · obtain ⟨⟨r1, e1⟩, h1, h⟩ := Option.bind_eq_some_iff.mp h
    obtain ⟨⟨r2, e2⟩, h2, h⟩ := Option.bind_eq_some_iff.mp h
    have kk := keep_two A B h1 h2
    simp only at h
    split at h
    · split at h
      · obtain ⟨x, hx, h⟩ := Option.map_eq_some_iff.mp h
        cases h; exact kk
      · split at h
        · obtain ⟨x, hx, h⟩ := Option.map_eq_some_iff.mp h
          cases h; exact kk
        · cases h
    · cases h
end
end DL
end
section
set_option maxHeartbeats 4000000
/-! DL4: displays, slices, built-in calls of one argument, isinstance. -/
namespace DL
open PySem PySem.Spec PyProof.Rows L2

/-! ### a row of values, escaped -/
def RvL (c : Cfg) (G : Hp) : List V → List (Bool × D) → Prop
  | [], [] => True
  | v :: vs, p :: ps => Rv c G p.1 v p.2 ∧ RvL c G vs ps
  | _, _ => False
theorem RvL.mono {c : Cfg} {G G' : Hp} (s : Same G G') : ∀ {vs : List V} {ps : List (Bool × D)}, RvL c G vs ps → RvL c G' vs ps
  | [], [], _ => trivial
  | _ :: _, _ :: _, h => ⟨Rv.mono s h.1, RvL.mono s h.2⟩
  | [], _ :: _, h => h.elim
  | _ :: _, [], h => h.elim
theorem RvL.length {c : Cfg} {G : Hp} : ∀ {vs : List V} {ps : List (Bool × D)}, RvL c G vs ps → vs.length = ps.length
  | [], [], _ => rfl
  | _ :: _, _ :: _, h => by simp [RvL.length h.2]
  | [], _ :: _, h => h.elim
  | _ :: _, [], h => h.elim
/-- the flag of a row -/
def flagOf (ps : List (Bool × D)) : Bool := ps.all fun p => p.1 || sc p.2
theorem RvL.all {c : Cfg} {G : Hp} {F : Bool} : ∀ {vs : List V} {ps : List (Bool × D)}, RvL c G vs ps → (F = true → flagOf ps = true) → RvAll c G F vs (ps.map (·.2))
  | [], [], _, _ => .nil
  | v :: vs, p :: ps, h, k => by
    refine .cons (h.1.weak F fun z => ?_) (RvL.all h.2 fun z => ?_)
    · have := k z
      unfold flagOf at this
      simp only [List.all_cons, Bool.and_eq_true, Bool.or_eq_true] at this
      exact this.1
    · have := k z
      unfold flagOf at this ⊢
      simp only [List.all_cons, Bool.and_eq_true] at this
      exact this.2
  | [], _ :: _, h, _ => h.elim
  | _ :: _, [], h, _ => h.elim
abbrev MEs := EnvD → Option (List (Bool × D) × EnvD)
def eNil : MEs := fun e => some ([], e)
def eCons (a : ME) (r : MEs) : MEs := fun e => (mEsc a e).bind fun p => (r p.2).map fun q => (p.1 :: q.1, q.2)
structure SA (K : PySem.W.Frag) (t : TA) (m : MEs) : Prop where
  run : ∀ c : Cfg, c.K = K → ∀ G H σ e, Rel c G H σ e → ∀ ps e', m e = some (ps, e') → ∀ Q : List V → Hp → Prop, (∀ vs G' H', Same G G' → Rel c G' H' σ e' → RvL c G' vs ps → Q vs H') → t σ H Q
  keep : ∀ e r e', m e = some (r, e') → Keep e e'
section
variable {K : PySem.W.Frag}
theorem eNil_ok : SA K tNil eNil := by
  refine ⟨fun c hK G H σ e R ps e' h Q q => ?_, fun e r e' h => ?_⟩
  · cases h; exact q [] G H (Same.refl _) R trivial
  · cases h; exact Keep.refl _
theorem eCons_ok {te : TE} {t : TA} {a : ME} {r : MEs} (A : SE K te a) (B : SA K t r) : SA K (tCons te t) (eCons a r) := by
  refine ⟨fun c hK G H σ e R ps e' h Q q => ?_, fun e r' e' h => ?_⟩
  · obtain ⟨⟨⟨f, x⟩, e1⟩, h1, h⟩ := Option.bind_eq_some_iff.mp h
    obtain ⟨⟨qs, e2⟩, h2, h⟩ := Option.map_eq_some_iff.mp h
    cases h
    refine (mEsc_ok A).run c hK G H σ e R _ _ _ h1 _ fun v G1 H1 s1 R1 k1 => ?_
    refine B.run c hK G1 H1 σ e1 R1 _ _ h2 _ fun vs G2 H2 s2 R2 k2 => ?_
    exact q (v :: vs) G2 H2 (s1.trans s2) R2 ⟨Rv.mono s2 k1, k2⟩
  · obtain ⟨⟨⟨f, x⟩, e1⟩, h1, h⟩ := Option.bind_eq_some_iff.mp h
    obtain ⟨⟨qs, e2⟩, h2, h⟩ := Option.map_eq_some_iff.mp h
    cases h
    exact ((mEsc_ok A).keep _ _ _ h1).trans (B.keep _ _ _ h2)
def mTup (m : MEs) : ME := fun e => (m e).bind fun p => if p.1.length ≤ sizeLine then some (.val (flagOf p.1) (.tuple (p.1.map (·.2))), p.2) else none
def mLst (m : MEs) : ME := fun e => (m e).bind fun p => if p.1.length ≤ sizeLine then some (.new (flagOf p.1) (p.1.map (·.2)), p.2) else none
theorem mTup_ok {t : TA} {m : MEs} (A : SA K t m) : SE K (tTup t) (mTup m) := by
  refine ⟨fun c hK G H σ e R r e' h Q q => ?_, fun e r e' h => ?_⟩
  · obtain ⟨⟨ps, e1⟩, h1, h⟩ := Option.bind_eq_some_iff.mp h
    refine A.run c hK G H σ e R _ _ h1 _ fun vs G1 H1 s1 R1 k1 => ?_
    simp only at h
    split at h
    · rename_i hz
      cases h
      refine ⟨by rw [k1.length]; exact hz, fun p hp => ?_⟩
      have gp := R1.frozen hp
      exact q (.ref p) _ _ (s1.trans (same_new gp)) (R1.newG hp) (rv_tup gp (k1.all fun z => z))
    · cases h
  · obtain ⟨⟨ps, e1⟩, h1, h⟩ := Option.bind_eq_some_iff.mp h
    simp only at h
    split at h
    · cases h; exact A.keep _ _ _ h1
    · cases h
theorem mLst_ok {t : TA} {m : MEs} (A : SA K t m) : SE K (tLst t) (mLst m) := by
  refine ⟨fun c hK G H σ e R r e' h Q q => ?_, fun e r e' h => ?_⟩
  · obtain ⟨⟨ps, e1⟩, h1, h⟩ := Option.bind_eq_some_iff.mp h
    refine A.run c hK G H σ e R _ _ h1 _ fun vs G1 H1 s1 R1 k1 => ?_
    simp only at h
    split at h
    · rename_i hz
      cases h
      refine ⟨by rw [k1.length]; exact hz, fun p hp => ?_⟩
      obtain ⟨R2, k2⟩ := rvOk_new R1 hp (k1.all (F := flagOf ps) fun z => z)
      exact q (.ref p) G1 _ s1 R2 k2
    · cases h
  · obtain ⟨⟨ps, e1⟩, h1, h⟩ := Option.bind_eq_some_iff.mp h
    simp only at h
    split at h
    · cases h; exact A.keep _ _ _ h1
    · cases h

/-! ### slices -/
def cutD (xs : List D) (lo hi : Option Int) : List D := (xs.drop (HT.sIx xs.length 0 lo)).take (HT.sIx xs.length xs.length hi - HT.sIx xs.length 0 lo)
abbrev MO := EnvD → Option (Option Int × EnvD)
def oNone : MO := fun e => some (none, e)
def oSome (a : ME) : MO := fun e => (a e).bind fun p => match getD p.1 p.2 with
  | some (.int i) => some (some i, p.2)
  | _ => none
structure SO (K : PySem.W.Frag) (t : TO) (m : MO) : Prop where
  run : ∀ c : Cfg, c.K = K → ∀ G H σ e, Rel c G H σ e → ∀ o e', m e = some (o, e') → ∀ Q : Option Int → Hp → Prop, (∀ G' H', Same G G' → Rel c G' H' σ e' → Q o H') → t σ H Q
  keep : ∀ e r e', m e = some (r, e') → Keep e e'
theorem oNone_ok : SO K tNoPart oNone := by
  refine ⟨fun c hK G H σ e R o e' h Q q => ?_, fun e r e' h => ?_⟩
  · cases h; exact q G H (Same.refl _) R
  · cases h; exact Keep.refl _
theorem oSome_ok {te : TE} {a : ME} (A : SE K te a) : SO K (tPart te) (oSome a) := by
  refine ⟨fun c hK G H σ e R o e' h Q q => ?_, fun e r e' h => ?_⟩
  · obtain ⟨⟨r1, e1⟩, h1, h⟩ := Option.bind_eq_some_iff.mp h
    refine A.run c hK G H σ e R _ _ h1 _ fun v G1 H1 s1 R1 k1 => ?_
    simp only at h
    split at h
    · rename_i i hi
      cases h
      exact ⟨i, dp_int (getD_ok R1 k1 hi), q G1 H1 s1 R1⟩
    · cases h
  · obtain ⟨⟨r1, e1⟩, h1, h⟩ := Option.bind_eq_some_iff.mp h
    simp only at h
    split at h
    · cases h; exact A.keep _ _ _ h1
    · cases h
def mSl (a : ME) (lo hi : MO) : ME := fun e => (settle a e).bind fun p => (lo p.2).bind fun l => (hi l.2).bind fun u => match view p.1 u.2 with
  | some (false, f, xs) => some (.new f (cutD xs l.1 u.1), u.2)
  | _ => match getD p.1 u.2 with
    | some (.str z) => if z.length ≤ sizeLine then some (.val true (.str (cutS z l.1 u.1)), u.2) else none
    | _ => none
def rSlA (K : PySem.W.Frag) : V → Option Int → Option Int → Hp → VK → Prop := fun x lo hi H Q => rSlL K x lo hi H Q ∨ rSlS x lo hi H Q
theorem sl_any {X : Cx} : SlR X (rSlA X.K) := SlR.or sl_list sl_str
theorem mSl_ok {ta : TE} {tl th : TO} {a : ME} {lo hi : MO} (A : SE K ta a) (B : SO K tl lo) (C : SO K th hi) : SE K (tSl (rSlA K) ta tl th) (mSl a lo hi) := by
  refine ⟨fun c hK G H σ e R r e' h Q q => ?_, fun e r e' h => ?_⟩
  · obtain ⟨⟨r1, e1⟩, h1, h⟩ := Option.bind_eq_some_iff.mp h
    obtain ⟨⟨l, e2⟩, h2, h⟩ := Option.bind_eq_some_iff.mp h
    obtain ⟨⟨u, e3⟩, h3, h⟩ := Option.bind_eq_some_iff.mp h
    refine (settle_ok A).run c hK G H σ e R _ _ h1 _ fun v G1 H1 s1 R1 k1 => ?_
    refine B.run c hK G1 H1 σ e1 R1 _ _ h2 _ fun G2 H2 s2 R2 => ?_
    refine C.run c hK G2 H2 σ e2 R2 _ _ h3 _ fun G3 H3 s3 R3 => ?_
    have k3 : RvOk c G3 H3 σ e3 v r1 := k1.last (settle_fix h1) (s2.trans s3)
    subst hK
    simp only at h
    split at h
    · rename_i f xs hv
      cases h
      obtain ⟨p, us, rfl, q1, hs⟩ := view_ok R3 k3 hv
      refine .inl ⟨p, us, rfl, hs, fun l' hl => ?_⟩
      have qq : RvAll c G3 f (cutV us l u) (cutD xs l u) := by
        unfold cutV cutD
        rw [q1.length]
        exact (q1.drop _).take _
      obtain ⟨R4, k4⟩ := rvOk_new R3 hl qq
      exact q _ G3 _ ((s1.trans s2).trans s3) R4 k4
    · split at h
      · rename_i z hz
        split at h
        · rename_i hl
          cases h
          exact .inr ⟨z, dp_str (getD_ok R3 k3 hz), hl, q _ G3 H3 ((s1.trans s2).trans s3) R3 (.str _)⟩
        · cases h
      · cases h
  · obtain ⟨⟨r1, e1⟩, h1, h⟩ := Option.bind_eq_some_iff.mp h
    obtain ⟨⟨l, e2⟩, h2, h⟩ := Option.bind_eq_some_iff.mp h
    obtain ⟨⟨u, e3⟩, h3, h⟩ := Option.bind_eq_some_iff.mp h
    have kk := (((settle_ok A).keep _ _ _ h1).trans (B.keep _ _ _ h2)).trans (C.keep _ _ _ h3)
    simp only at h
    split at h
    · cases h; exact kk
    · split at h
      · split at h
        · cases h; exact kk
        · cases h
      · cases h

/-! ### built-in calls of one argument, scalars -/
def Call1 (K : PySem.W.Frag) (r : List V → Hp → VK → Prop) (op : D → Option D) : Prop := UnS K (fun x H Q => r [x] H Q) op
theorem mCall1_ok {r : List V → Hp → VK → Prop} {op : D → Option D} {ta : TE} {a : ME} (O : Call1 K r op) (A : SE K ta a) : SE K (tCB r (tCons ta tNil)) (mUn op a) := mUn_ok (r := fun x H Q => r [x] H Q) O A
def dLen : D → Option D
  | .list xs => some (.int xs.length)
  | .tuple xs => some (.int xs.length)
  | .str z => if z.length ≤ sizeLine then some (.int z.length) else none
  | _ => none
theorem c1_len : Call1 K (fun xs H Q => ∃ x n, xs = [x] ∧ LenV K x H n ∧ Q (.int (n : Nat)) H) dLen := by
  intro H v x z hx h Q q
  unfold dLen at h
  split at h
  · cases h
    cases hx with
    | lst a b => exact ⟨_, _, rfl, .inl ⟨_, a, rfl⟩, by rw [dpAll_length b]; exact q _ fun G => .int _⟩
  · cases h
    cases hx with
    | tup a b => exact ⟨_, _, rfl, .inr ⟨_, a, rfl⟩, by rw [dpAll_length b]; exact q _ fun G => .int _⟩
  · split at h
    · rename_i hz
      cases h
      rw [dp_str hx]
      exact ⟨_, _, rfl, ⟨hz, rfl⟩, q _ fun G => .int _⟩
    · cases h
  · cases h
def intsD : List D → Option (List Int)
  | [] => some []
  | .int i :: xs => (intsD xs).map (i :: ·)
  | _ => none
def boolsD : List D → Option (List Bool)
  | [] => some []
  | .bool i :: xs => (boolsD xs).map (i :: ·)
  | _ => none
theorem ints_dp {H : Hp} : ∀ {xs : List D} {vs : List V} {ns : List Int}, intsD xs = some ns → DpAll K H vs xs → vs = ns.map V.int ∧ xs = ns.map PyData.int
  | [], _, _, h, r => by cases h; cases r; exact ⟨rfl, rfl⟩
  | x :: xs, _, _, h, r => by
    cases r with
    | cons a b =>
      unfold intsD at h
      split at h
      · rename_i z; cases z
      · rename_i i xs' z
        cases z
        obtain ⟨ns', h1, h2⟩ := Option.map_eq_some_iff.mp h
        subst h2
        obtain ⟨e1, e2⟩ := ints_dp h1 b
        rw [dp_int a, e1, e2]
        exact ⟨rfl, rfl⟩
      · cases h
theorem ints_map (ns : List Int) : intsD (ns.map PyData.int) = some ns := by
  induction ns with
  | nil => rfl
  | cons n ns ih => simp [intsD, ih]
theorem bools_dp {H : Hp} : ∀ {xs : List D} {vs : List V} {ns : List Bool}, boolsD xs = some ns → DpAll K H vs xs → vs = ns.map V.bl ∧ xs = ns.map PyData.bool
  | [], _, _, h, r => by cases h; cases r; exact ⟨rfl, rfl⟩
  | x :: xs, _, _, h, r => by
    cases r with
    | cons a b =>
      unfold boolsD at h
      split at h
      · rename_i z; cases z
      · rename_i i xs' z
        cases z
        obtain ⟨ns', h1, h2⟩ := Option.map_eq_some_iff.mp h
        subst h2
        obtain ⟨e1, e2⟩ := bools_dp h1 b
        rw [dp_bool a, e1, e2]
        exact ⟨rfl, rfl⟩
      · cases h
theorem bools_map (ns : List Bool) : boolsD (ns.map PyData.bool) = some ns := by
  induction ns with
  | nil => rfl
  | cons n ns ih => simp [boolsD, ih]
def dSum : D → Option D
  | .list xs => (intsD xs).map fun ns => .int ns.sum
  | _ => none
def dAny : D → Option D
  | .list xs => (boolsD xs).map fun ns => .bool (ns.any id)
  | _ => none
def dAll : D → Option D
  | .list xs => (boolsD xs).map fun ns => .bool (ns.all id)
  | _ => none
theorem c1_sum : Call1 K (rSum K) dSum := by
  intro H v x z hx h Q q
  unfold dSum at h
  split at h
  · obtain ⟨ns, h1, h2⟩ := Option.map_eq_some_iff.mp h
    subst h2
    cases hx with
    | lst a b =>
      obtain ⟨e1, _⟩ := ints_dp h1 b
      subst e1
      exact ⟨_, ns, rfl, a, q _ fun G => .int _⟩
  · cases h
theorem c1_any : Call1 K (rAny K) dAny := by
  intro H v x z hx h Q q
  unfold dAny at h
  split at h
  · obtain ⟨ns, h1, h2⟩ := Option.map_eq_some_iff.mp h
    subst h2
    cases hx with
    | lst a b =>
      obtain ⟨e1, _⟩ := bools_dp h1 b
      subst e1
      exact ⟨_, ns, rfl, a, q _ fun G => .bl _⟩
  · cases h
theorem c1_all : Call1 K (rAll K) dAll := by
  intro H v x z hx h Q q
  unfold dAll at h
  split at h
  · obtain ⟨ns, h1, h2⟩ := Option.map_eq_some_iff.mp h
    subst h2
    cases hx with
    | lst a b =>
      obtain ⟨e1, _⟩ := bools_dp h1 b
      subst e1
      exact ⟨_, ns, rfl, a, q _ fun G => .bl _⟩
  · cases h
def dInt : D → Option D
  | .int i => some (.int i)
  | .bool b => some (.int (if b then 1 else 0))
  | _ => none
theorem c1_int : Call1 K (fun xs H Q => (∃ i, xs = [.int i] ∧ Q (.int i) H) ∨ ∃ k, xs = [.bl k] ∧ Q (.int (if k then 1 else 0)) H) dInt := by
  intro H v x z hx h Q q
  unfold dInt at h
  split at h
  · cases h; exact .inl ⟨_, by rw [dp_int hx], q _ fun G => .int _⟩
  · cases h; exact .inr ⟨_, by rw [dp_bool hx], q _ fun G => .int _⟩
  · cases h

/-! ### list(x) -/
def mList (a : ME) : ME := fun e => (a e).bind fun p => match view p.1 p.2 with
  | some (_, f, xs) => some (.new f xs, p.2)
  | none => none
theorem mList_ok {ta : TE} {a : ME} (A : SE K ta a) : SE K (tCB (fun xs H Q => ∃ p ys, xs = [.ref p] ∧ (SqL K H p ys ∨ SqT K H p ys) ∧ ∀ l, H l = none → Q (.ref l) (upd H l (.lst ys))) (tCons ta tNil)) (mList a) := by
  refine ⟨fun c hK G H σ e R r e' h Q q => ?_, fun e r e' h => ?_⟩
  · obtain ⟨⟨r1, e1⟩, h1, h⟩ := Option.bind_eq_some_iff.mp h
    refine A.run c hK G H σ e R _ _ h1 _ fun v G1 H1 s1 R1 k1 => ?_
    subst hK
    simp only at h
    split at h
    · rename_i t f xs hv
      cases h
      obtain ⟨p, us, rfl, q1, hs⟩ := view_ok R1 k1 hv
      refine ⟨p, us, rfl, ?_, fun l hl => ?_⟩
      · cases t with
        | true => exact .inr hs
        | false => exact .inl hs
      · obtain ⟨R4, k4⟩ := rvOk_new R1 hl q1
        exact q _ G1 _ s1 R4 k4
    · cases h
  · obtain ⟨⟨r1, e1⟩, h1, h⟩ := Option.bind_eq_some_iff.mp h
    simp only at h
    split at h
    · cases h; exact A.keep _ _ _ h1
    · cases h

/-! ### isinstance(x, T), T a built-in type -/
def tyOf : D → String
  | .none => "NoneType"
  | .bool _ => "bool"
  | .int _ => "int"
  | .str _ => "str"
  | .list _ => "list"
  | .tuple _ => "tuple"
  | .dict _ => "dict"
def dIsi (T : String) (x : D) : Option D := (kitB (tyOf x) T).map PyData.bool
theorem dp_tyX {H : Hp} {v : V} {x : D} (h : Dp K H v x) : TyX K H v (.type (tyOf x)) := by
  cases h with
  | non => exact .base .non
  | bl => exact .base (.bl _)
  | int => exact .base (.int _)
  | str => exact .base (.str _)
  | lst a _ =>
    rcases a with (a | ⟨o, a⟩) | ⟨o, its, n, a, hc, _⟩
    · exact .base (.lst a)
    · exact .base (.frz a)
    · exact .kList a hc
  | tup a _ =>
    rcases a with (a | ⟨o, a⟩) | ⟨o, its, n, a, hc, _⟩
    · exact .base (.tup a)
    · exact .fTuple a
    · exact .kTuple a hc
theorem us_isi {T : String} : UnS K (fun x H Q => rIsi K [x, .ty T] H Q) (dIsi T) := by
  intro H v x z hx h Q q
  unfold dIsi at h
  obtain ⟨b, h1, h2⟩ := Option.map_eq_some_iff.mp h
  subst h2
  exact ⟨v, .ty T, .type (tyOf x), .type T, b, rfl, .ty T, dp_tyX hx, kit_ty h1, q _ fun G => .bl _⟩
theorem mIsi_ok {T : String} {ta : TE} {a : ME} (A : SE K ta a) : SE K (tCB (rIsi K) (tCons ta (tCons (tC (.ty T)) tNil))) (mUn (dIsi T) a) := mUn_ok (r := fun x H Q => rIsi K [x, .ty T] H Q) us_isi A

/-! ### chains of comparisons -/
def mChain (op op' : D → D → Option D) (a b d : ME) : ME := fun e =>
  (settle a e).bind fun p => (settle b p.2).bind fun q => (getD p.1 q.2).bind fun x => (getD q.1 q.2).bind fun y => match op x y with
    | some (.bool true) => (d q.2).bind fun r => (getD q.1 r.2).bind fun y' => (getD r.1 r.2).bind fun z => (op' y' z).map fun w => (.val true w, r.2)
    | some (.bool false) => some (.val true (.bool false), q.2)
    | _ => none
theorem mChain_ok {r r' : R2} {op op' : D → D → Option D} {ta tb td : TE} {a b d : ME} (O : OpS K r op) (O' : OpS K r' op') (A : SE K ta a) (B : SE K tb b) (C : SE K td d) : SE K (tChain r r' ta tb td) (mChain op op' a b d) := by
  refine ⟨fun c hK G H σ e R rr e' h Q q => ?_, fun e r e' h => ?_⟩
  · obtain ⟨⟨r1, e1⟩, h1, h⟩ := Option.bind_eq_some_iff.mp h
    obtain ⟨⟨r2, e2⟩, h2, h⟩ := Option.bind_eq_some_iff.mp h
    obtain ⟨x, hx, h⟩ := Option.bind_eq_some_iff.mp h
    obtain ⟨y, hy, h⟩ := Option.bind_eq_some_iff.mp h
    refine two_ok A B hK R h1 h2 fun v w G' H' s R' k1 k2 => ?_
    simp only at h
    split at h
    · rename_i ho
      obtain ⟨⟨r3, e3⟩, h3, h⟩ := Option.bind_eq_some_iff.mp h
      obtain ⟨y', hy', h⟩ := Option.bind_eq_some_iff.mp h
      obtain ⟨z, hz, h⟩ := Option.bind_eq_some_iff.mp h
      obtain ⟨u, hu, h⟩ := Option.map_eq_some_iff.mp h
      cases h
      subst hK
      refine O H' v w x y _ (getD_ok R' k1 hx) (getD_ok R' k2 hy) ho _ fun u0 hu0 => ?_
      have e0 : u0 = .bl true := dp_bool (Rs.dp (K := c.K) (hu0 (fun _ => none)))
      refine ⟨true, e0, ?_⟩
      rw [if_pos rfl]
      refine C.run c rfl G' H' σ e2 R' _ _ h3 _ fun v3 G3 H3 s3 R3 k3 => ?_
      have k2' : RvOk c G3 H3 σ e3 w r2 := k2.last (settle_fix h2) s3
      exact O' H3 w v3 y' z _ (getD_ok R3 k2' hy') (getD_ok R3 k3 hz) hu _ fun u1 hu1 => q u1 G3 H3 (s.trans s3) R3 (hu1 _)
    · rename_i ho
      cases h
      subst hK
      refine O H' v w x y _ (getD_ok R' k1 hx) (getD_ok R' k2 hy) ho _ fun u0 hu0 => ?_
      have e0 : u0 = .bl false := dp_bool (Rs.dp (K := c.K) (hu0 (fun _ => none)))
      refine ⟨false, e0, ?_⟩
      rw [if_neg (by decide)]
      exact q _ G' H' s R' (.bl _)
    · cases h
  · obtain ⟨⟨r1, e1⟩, h1, h⟩ := Option.bind_eq_some_iff.mp h
    obtain ⟨⟨r2, e2⟩, h2, h⟩ := Option.bind_eq_some_iff.mp h
    obtain ⟨x, hx, h⟩ := Option.bind_eq_some_iff.mp h
    obtain ⟨y, hy, h⟩ := Option.bind_eq_some_iff.mp h
    have kk := keep_two A B h1 h2
    simp only at h
    split at h
    · obtain ⟨⟨r3, e3⟩, h3, h⟩ := Option.bind_eq_some_iff.mp h
      obtain ⟨y', hy', h⟩ := Option.bind_eq_some_iff.mp h
      obtain ⟨z, hz, h⟩ := Option.bind_eq_some_iff.mp h
      obtain ⟨u, hu, h⟩ := Option.map_eq_some_iff.mp h
      cases h
      exact kk.trans (C.keep _ _ _ h3)
    · cases h; exact kk
    · cases h
end
end DL
end
section
set_option maxHeartbeats 4000000
/-! DL5: targets, what is walked. -/
namespace DL
open PySem PySem.Spec PyProof.Rows L2

/-! ### targets -/
/-- may slot i be stored? -/
def free (e : EnvD) (i : Nat) : Bool := match e[i]? with
  | some (.o true _ _ _) => false
  | some (.o _ true _ _) => false
  | some _ => true
  | none => false
theorem free_lt {e : EnvD} {i : Nat} (h : free e i = true) : i < e.length := by
  unfold free at h
  split at h
  · cases h
  · cases h
  · rename_i s _ _ he; exact (List.getElem?_eq_some_iff.mp he).1
  · cases h
theorem free_io {e : EnvD} {i : Nat} (h : free e i = true) : ∀ lk f xs, e[i]? ≠ some (.o true lk f xs) := fun lk f xs z => by
  unfold free at h; rw [z] at h; cases h
theorem free_lk {e : EnvD} {i : Nat} (h : free e i = true) : ∀ io f xs, e[i]? ≠ some (.o io true f xs) := fun io f xs z => by
  unfold free at h; rw [z] at h; cases io <;> cases h
inductive Tg where
  | nm (i : Nat)
  | tup (ts : List Tg)
mutual
def bindT : Tg → Bool → D → EnvD → Option EnvD
  | .nm i, f, x, e => if free e i = true then some (e.set i (.v f x)) else none
  | .tup ts, f, x, e => match x with
    | .tuple xs => bindTs ts f xs e
    | _ => none
def bindTs : List Tg → Bool → List D → EnvD → Option EnvD
  | [], _, [], e => some e
  | t :: ts, f, x :: xs, e => (bindT t f x e).bind fun e1 => bindTs ts f xs e1
  | _, _, _, _ => none
end
mutual
def Tg.slots : Tg → List Nat
  | .nm i => [i]
  | .tup ts => slotsL ts
def slotsL : List Tg → List Nat
  | [] => []
  | t :: ts => t.slots ++ slotsL ts
end
/-- what a target stores touches its own slots alone, and no locked one -/
structure Touch (sl : List Nat) (σ : St) (e : EnvD) (σ' : St) (e' : EnvD) : Prop where
  s : ∀ j, j ∉ sl → σ'[j]? = σ[j]?
  l : σ'.length = σ.length
  k : ∀ (j : Nat) io f xs, e[j]? = some (.o io true f xs) → e'[j]? = some (.o io true f xs) ∧ σ'[j]? = σ[j]?
theorem Touch.refl (sl : List Nat) (σ : St) (e : EnvD) : Touch sl σ e σ e := ⟨fun _ _ => rfl, rfl, fun _ _ _ _ h => ⟨h, rfl⟩⟩
theorem Touch.trans {s1 s2 : List Nat} {σ σ1 σ2 : St} {e e1 e2 : EnvD} (a : Touch s1 σ e σ1 e1) (b : Touch s2 σ1 e1 σ2 e2) : Touch (s1 ++ s2) σ e σ2 e2 :=
  ⟨fun j hj => by rw [List.mem_append, not_or] at hj; rw [b.s j hj.2, a.s j hj.1], by rw [b.l, a.l], fun j io f xs h => by
    obtain ⟨h1, h2⟩ := a.k j io f xs h
    obtain ⟨h3, h4⟩ := b.k j io f xs h1
    exact ⟨h3, h4.trans h2⟩⟩
structure SG (g : TG) (sl : List Nat) (m : Bool → D → EnvD → Option EnvD) : Prop where
  run : ∀ c G H σ e, Rel c G H σ e → ∀ f v x e', Rv c G f v x → m f x e = some e' → ∀ Q : St → Hp → Prop, (∀ σ', Rel c G H σ' e' → Touch sl σ e σ' e' → Q σ' H) → g v σ H Q
structure SGs (g : TGs) (sl : List Nat) (m : Bool → List D → EnvD → Option EnvD) : Prop where
  run : ∀ c G H σ e, Rel c G H σ e → ∀ f vs xs e', RvAll c G f vs xs → m f xs e = some e' → ∀ Q : St → Hp → Prop, (∀ σ', Rel c G H σ' e' → Touch sl σ e σ' e' → Q σ' H) → g vs σ H Q
theorem put_val {c : Cfg} {G H : Hp} {σ : St} {e : EnvD} (R : Rel c G H σ e) {i : Nat} (hf : free e i = true) {f : Bool} {v : V} {x : D} (k : Rv c G f v x) :
    Rel c G H (σ.set i (some v)) (e.set i (.v f x)) ∧ Touch [i] σ e (σ.set i (some v)) (e.set i (.v f x)) := by
  refine ⟨R.put (free_lt hf) (free_io hf) ⟨v, rfl, k⟩ (fun _ _ _ _ z => by cases z), fun j hj => ?_, List.length_set, fun j io f' xs h => ?_⟩
  · rw [List.mem_singleton] at hj
    exact List.getElem?_set_ne (Ne.symm hj)
  · have hj : i ≠ j := fun z => by subst z; exact free_lk hf _ _ _ h
    rw [List.getElem?_set_ne hj, List.getElem?_set_ne hj]; exact ⟨h, rfl⟩
theorem sg_name (i : Nat) : SG (gName i) [i] (bindT (.nm i)) := by
  refine ⟨fun c G H σ e R f v x e' k h Q q => ?_⟩
  unfold bindT at h
  split at h
  · rename_i hf
    cases h
    obtain ⟨R', t⟩ := put_val R hf k
    exact q _ R' t
  · cases h
theorem sgs_nil : SGs gNil [] (bindTs []) := by
  refine ⟨fun c G H σ e R f vs xs e' k h Q q => ?_⟩
  cases xs with
  | nil => unfold bindTs at h; cases h; exact ⟨k.unnil, q σ R (Touch.refl _ _ _)⟩
  | cons x xs => unfold bindTs at h; cases h
theorem sgs_cons {g : TG} {gs : TGs} {t : Tg} {ts : List Tg} {s1 s2 : List Nat} (A : SG g s1 (bindT t)) (B : SGs gs s2 (bindTs ts)) : SGs (gCons g gs) (s1 ++ s2) (bindTs (t :: ts)) := by
  refine ⟨fun c G H σ e R f vs xs e' k h Q q => ?_⟩
  cases xs with
  | nil => unfold bindTs at h; cases h
  | cons x xs =>
    unfold bindTs at h
    obtain ⟨e1, h1, h2⟩ := Option.bind_eq_some_iff.mp h
    obtain ⟨v, vs', rfl, k1, k2⟩ := k.uncons
    refine ⟨v, vs', rfl, A.run c G H σ e R f v x e1 k1 h1 _ fun σ1 R1 t1 => ?_⟩
    exact B.run c G H σ1 e1 R1 f vs' xs e' k2 h2 _ fun σ2 R2 t2 => q σ2 R2 (t1.trans t2)
theorem bindTs_len : ∀ {ts : List Tg} {f : Bool} {xs : List D} {e e' : EnvD}, bindTs ts f xs e = some e' → ts.length = xs.length
  | [], _, [], _, _, _ => rfl
  | t :: ts, f, x :: xs, e, e', h => by
    unfold bindTs at h
    obtain ⟨e1, _, h2⟩ := Option.bind_eq_some_iff.mp h
    simp [bindTs_len h2]
  | [], _, _ :: _, _, _, h => by unfold bindTs at h; cases h
  | _ :: _, _, [], _, _, h => by unfold bindTs at h; cases h
theorem sg_tup {K : PySem.W.Frag} {gs : TGs} {ts : List Tg} {sl : List Nat} {n : Nat} (hn : n = ts.length) (B : SGs gs sl (bindTs ts)) : SG (gTup K n gs) sl (bindT (.tup ts)) := by
  refine ⟨fun c G H σ e R f v x e' k h Q q => ?_⟩
  unfold bindT at h
  split at h
  · rename_i xs
    obtain ⟨p, us, rfl, hp, ra⟩ := rv_tuple k
    refine ⟨p, us, rfl, SqT.of (R.gh _ _ hp), by rw [ra.length, ← bindTs_len h, hn], ?_⟩
    exact B.run c G H σ e R f us xs e' ra h Q q
  · cases h

/-! ### what is walked -/
structure Src where
  lk : List (Nat × Bool)
  f : Bool
  ds : List D
  b : Bool
abbrev MI := EnvD → Option (Src × EnvD)
def LkOk (e0 : EnvD) (σ0 : St) (lk : List (Nat × Bool)) (e : EnvD) (σ : St) : Prop :=
  ∀ p ∈ lk, e[p.1]? = e0[p.1]? ∧ σ[p.1]? = σ0[p.1]?
structure Serve (c : Cfg) (J : It) (s : Src) (G0 : Hp) (σ0 : St) (e0 : EnvD) : Prop where
  lkd : ∀ p ∈ s.lk, ∃ io f xs, e0[p.1]? = some (.o io true f xs)
  item : ∀ tm i x G H σ e, s.ds[i]? = some x → Same G0 G → Rel (c.wt tm) G H σ e → LkOk e0 σ0 s.lk e σ → J.go i H ∧ ∀ v H', J.yld i H v H' → ∃ G', Same G G' ∧ Rel (c.wt tm) G' H' σ e ∧ Rv c G' s.f v x
  stop : ∀ tm i G H σ e, s.ds.length ≤ i → Same G0 G → Rel (c.wt tm) G H σ e → LkOk e0 σ0 s.lk e σ → J.stop i H
/-- every list and tuple that is read is not too long -/
def LenOk (K : PySem.W.Frag) (H : Hp) : Prop := (∀ a xs, SqL K H a xs → xs.length ≤ sizeLine) ∧ ∀ a xs, SqT K H a xs → xs.length ≤ sizeLine
structure SI (K : PySem.W.Frag) (wi : TI) (m : MI) : Prop where
  run : ∀ c : Cfg, c.K = K → ∀ G H σ e, Rel c G H σ e → ∀ s e', m e = some (s, e') → ∀ R : It → Hp → Prop, (∀ J G' H', Same G G' → Rel c G' H' σ e' → Serve c J s G' σ e' → (s.b = true → LenOk K H' → s.ds.length ≤ sizeLine) → R J H') → wi σ H R
  keep : ∀ e s e', m e = some (s, e') → Keep e e'
  unl : ∀ e s e', m e = some (s, e') → ∀ (j : Nat) io f xs, e[j]? = some (.o io true f xs) → (j, true) ∉ s.lk
def DI (X : Cx) (tg iter : Expr) (m : MI) : Prop := ∃ wi, PI X tg iter wi ∧ SI X.K wi m
/-- a walked thing's reading may lean on the lengths -/
theorem pi_len {X : Cx} {tg iter : Expr} {wi : TI} (h : PI X tg iter wi) : PI X tg iter (fun σ H R => wi σ H fun J H1 => LenOk X.K H1 → R J H1) := by
  refine ⟨fun pins s σ H R I hw => thn (h.run pins s σ H _ I hw) fun v s1 h1 => thn h1 fun itv s2 h2 => ?_⟩
  obtain ⟨it, fp, tn, J, H2, e, I2, T, st2, f2, hr⟩ := h2
  refine ⟨it, fp, tn, J, H2, e, I2, T, st2, f2, hr ⟨fun a xs hs => ?_, fun a xs hs => ?_⟩⟩
  · obtain ⟨_, _, _, z⟩ := I2.list hs; exact z
  · obtain ⟨_, _, _, z⟩ := I2.tuple hs; exact z

/-- lists, tuples, texts -/
def iAny (K : PySem.W.Frag) (tl : TE) : TI := fun σ H R => tl σ H fun x H1 => (∃ a xs, x = .ref a ∧ SqL K H1 a xs ∧ R (Itl K a) H1) ∨ (∃ a xs, x = .ref a ∧ SqT K H1 a xs ∧ R (Itt K a) H1) ∨ ∃ z, x = .str z ∧ R (Its z) H1
theorem pi_any {X : Cx} {tg l : Expr} {tl : TE} (hl : PE X l tl) : PI X tg l (iAny X.K tl) := by
  refine ⟨fun pins s σ H R I h => ?_⟩
  refine thn (hl.run pins s σ H _ I h) fun v s1 ⟨x, H1, I1, r1, q1⟩ => ?_
  rcases q1 with ⟨a, xs, e, hq, q⟩ | ⟨a, xs, e, hq, q⟩ | ⟨z, ex, q⟩
  · subst e
    cases r1
    obtain ⟨its, rv, p, hz⟩ := I1.list hq
    refine wpAny_pyIter_list p.isList ?_
    refine ⟨s1.heap.objs.size, [s1.heap.objs.size], _, _, H1, rfl, I1.kept (t' := s1.toks) fun b o e => Heap.get?_push_of_some _ e, turn_list a _, ⟨_, Heap.get?_push_size _ rfl, rfl, rfl⟩, fun b hb => ?_, q⟩
    have e : b = s1.heap.objs.size := by simpa using hb
    subst e
    exact I1.fpOk (Nat.le_refl _) (I1.hok.fresh (Nat.le_refl _))
  · subst e
    cases r1
    obtain ⟨its, rv, p, hz⟩ := I1.tuple hq
    refine wpAny_pyIter_tuple (show s1.heap.IsTuple a its.toArray from p) ?_
    refine ⟨s1.heap.objs.size, [s1.heap.objs.size], _, _, H1, rfl, I1.kept (t' := s1.toks) fun b o e => Heap.get?_push_of_some _ e, turn_tuple a _, ⟨_, Heap.get?_push_size _ rfl, rfl, rfl⟩, fun b hb => ?_, q⟩
    have e : b = s1.heap.objs.size := by simpa using hb
    subst e
    exact I1.fpOk (Nat.le_refl _) (I1.hok.fresh (Nat.le_refl _))
  · subst ex
    obtain ⟨t, rfl⟩ := r1
    cases ha : z.cps.all (· < 128)
    · exact wpAny_pyIter_wide ha (pi_one (tk := s1.toks) I1 _ (turn_str _ z t "str_iterator" (.inr rfl)) ⟨_, Heap.get?_push_size _ rfl, rfl, rfl⟩ q)
    · exact wpAny_pyIter_ascii ha (pi_one (tk := s1.toks) I1 _ (turn_str _ z t "str_ascii_iterator" (.inl rfl)) ⟨_, Heap.get?_push_size _ rfl, rfl, rfl⟩ q)

/-- the lock of a value that is walked -/
def lockOf (r : RV) (e : EnvD) : List (Nat × Bool) × EnvD := match r with
  | .own i => match e[i]? with
    | some (.o io false f xs) => ([(i, true)], e.set i (.o io true f xs))
    | some (.o _ true _ _) => ([(i, false)], e)
    | _ => ([], e)
  | _ => ([], e)
/-- a list or tuple that lasts while the locks hold -/
def Last (c : Cfg) (G0 : Hp) (σ0 : St) (e0 : EnvD) (lk : List (Nat × Bool)) (t f : Bool) (v : V) (xs : List D) : Prop :=
  ∃ p, v = .ref p ∧ ∀ tm G H σ e, Same G0 G → Rel (c.wt tm) G H σ e → LkOk e0 σ0 lk e σ → ∃ ys, RvAll c G f ys xs ∧ (if t = true then SqT c.K H p ys else SqL c.K H p ys)
theorem lock_ok {c : Cfg} {G H : Hp} {σ : St} {e : EnvD} {v : V} {r : RV} (R : Rel c G H σ e) (k : RvOk c G H σ e v r) (n : r.fix = true) {t f : Bool} {xs : List D} (h : view r e = some (t, f, xs)) :
    Rel c G H σ (lockOf r e).2 ∧ (∀ p ∈ (lockOf r e).1, ∃ io f xs, (lockOf r e).2[p.1]? = some (.o io true f xs)) ∧ Last c G σ (lockOf r e).2 (lockOf r e).1 t f v xs ∧ Keep e (lockOf r e).2 := by
  have vl : ∀ {f xs}, Rv c G f v (.list xs) → ∀ e0 lk, Last c G σ e0 lk false f v xs := fun q e0 lk => by
    obtain ⟨p, ys, rfl, hp, ra⟩ := rv_list q
    exact ⟨p, rfl, fun tm G1 H1 σ1 e1 s1 R1 _ => ⟨ys, ra.mono s1, SqL.of (R1.gh _ _ (s1 _ _ hp))⟩⟩
  have vt : ∀ {f xs}, Rv c G f v (.tuple xs) → ∀ e0 lk, Last c G σ e0 lk true f v xs := fun q e0 lk => by
    obtain ⟨p, ys, rfl, hp, ra⟩ := rv_tuple q
    exact ⟨p, rfl, fun tm G1 H1 σ1 e1 s1 R1 _ => ⟨ys, ra.mono s1, SqT.of (R1.gh _ _ (s1 _ _ hp))⟩⟩
  unfold view at h
  split at h
  · cases h; exact ⟨R, fun p hp => (by cases hp), vl k _ _, Keep.refl _⟩
  · cases h; exact ⟨R, fun p hp => (by cases hp), vt k _ _, Keep.refl _⟩
  · cases n
  · rename_i i
    have k' : σ[i]? = some (some v) := k
    split at h
    · rename_i he
      cases h
      obtain ⟨s, hs, w, rfl, q⟩ := R.at he
      rw [k'] at hs; cases hs
      have e1 : lockOf (.own i) e = ([], e) := by unfold lockOf; simp only [he]
      rw [e1]
      exact ⟨R, fun p hp => (by cases hp), vl q _ _, Keep.refl _⟩
    · rename_i he
      cases h
      obtain ⟨s, hs, w, rfl, q⟩ := R.at he
      rw [k'] at hs; cases hs
      have e1 : lockOf (.own i) e = ([], e) := by unfold lockOf; simp only [he]
      rw [e1]
      exact ⟨R, fun p hp => (by cases hp), vt q _ _, Keep.refl _⟩
    · rename_i io lk f' xs' he
      cases h
      obtain ⟨p, ys, e1, e2, e3, e4, _⟩ := R.ow he
      rw [k'] at e1; cases e1
      have hi : i < e.length := (List.getElem?_eq_some_iff.mp he).1
      have last : ∀ (e0 : EnvD) (lk0 : List (Nat × Bool)) (b : Bool), (i, b) ∈ lk0 → e0[i]? = some (.o io true f xs) → Last c G σ e0 lk0 false f (.ref p) xs := fun e0 lk0 b hm he0 => by
        refine ⟨p, rfl, fun tm G1 H1 σ1 e1 s1 R1 L1 => ?_⟩
        obtain ⟨l1, l2⟩ := L1 _ hm
        simp only at l1 l2
        rw [he0] at l1
        obtain ⟨p', ys', z1, _, z3, z4, _⟩ := R1.ow l1
        rw [l2, k'] at z1; cases z1
        exact ⟨ys', z4, SqL.of z3⟩
      cases lk with
      | false =>
        have e1 : lockOf (.own i) e = ([(i, true)], e.set i (.o io true f xs)) := by unfold lockOf; simp only [he]
        rw [e1]
        refine ⟨R.relock true he, fun p hp => ?_, last _ _ true (by simp) (by rw [List.getElem?_set_self hi]), fun j io' f2 xs2 z => ?_⟩
        · rw [List.mem_singleton] at hp; subst hp; exact ⟨io, f, xs, by simp only; rw [List.getElem?_set_self hi]⟩
        · have hj : i ≠ j := fun y => by subst y; rw [he] at z; cases z
          simp only; rw [List.getElem?_set_ne hj]; exact z
      | true =>
        have e1 : lockOf (.own i) e = ([(i, false)], e) := by unfold lockOf; simp only [he]
        rw [e1]
        refine ⟨R, fun p hp => ?_, last _ _ false (by simp) he, Keep.refl _⟩
        rw [List.mem_singleton] at hp; subst hp; exact ⟨io, f, xs, he⟩
    · rename_i ns he
      cases h
      obtain ⟨s, hs, a, rfl, q⟩ := R.at he
      rw [k'] at hs; cases hs
      have e1 : lockOf (.own i) e = ([], e) := by unfold lockOf; simp only [he]
      rw [e1]
      refine ⟨R, fun p hp => (by cases hp), ⟨a, rfl, fun tm G1 H1 σ1 e1 s1 R1 _ => ⟨_, rv_ints ns, R1.gh.seq (s1.seq q)⟩⟩, Keep.refl _⟩
    · cases h
  · cases h
theorem lockOf_keep (r : RV) (e : EnvD) : Keep e (lockOf r e).2 := by
  unfold lockOf
  split
  · rename_i i
    split
    · rename_i io f xs he
      intro j io' f2 xs2 z
      have hj : i ≠ j := fun y => by subst y; rw [he] at z; cases z
      simp only; rw [List.getElem?_set_ne hj]; exact z
    · exact Keep.refl _
    · exact Keep.refl _
  · exact Keep.refl _
theorem lockOf_in (r : RV) (e : EnvD) : ∀ p ∈ (lockOf r e).1, ∃ io f xs, (lockOf r e).2[p.1]? = some (.o io true f xs) := by
  unfold lockOf
  split
  · rename_i i
    split
    · rename_i io f xs he
      intro p hp
      rw [List.mem_singleton] at hp; subst hp
      exact ⟨io, f, xs, by simp only; rw [List.getElem?_set_self (List.getElem?_eq_some_iff.mp he).1]⟩
    · rename_i io f xs he
      intro p hp
      rw [List.mem_singleton] at hp; subst hp
      exact ⟨io, f, xs, he⟩
    · intro p hp; cases hp
  · intro p hp; cases hp

theorem lockOf_new {r : RV} {e : EnvD} {j : Nat} (h : (j, true) ∈ (lockOf r e).1) : ∃ io f xs, e[j]? = some (.o io false f xs) := by
  unfold lockOf at h
  split at h
  · rename_i i
    split at h
    · rename_i io f xs he
      rw [List.mem_singleton] at h; cases h
      exact ⟨io, f, xs, he⟩
    · rw [List.mem_singleton] at h; cases h
    · cases h
  · cases h
theorem lockOf_old {r : RV} {e : EnvD} {j : Nat} {io f : Bool} {xs : List D} (z : e[j]? = some (.o io true f xs)) : (j, true) ∉ (lockOf r e).1 := fun h => by
  obtain ⟨_, _, _, z2⟩ := lockOf_new h
  rw [z] at z2; cases z2
def strD (z : Str) : List D := z.cps.toList.map fun c => .str ⟨#[c]⟩
/-- for x in a -/
def iSeq (a : ME) : MI := fun e => (settle a e).bind fun p => match view p.1 p.2 with
  | some (_, f, xs) => some (⟨(lockOf p.1 p.2).1, f, xs, true⟩, (lockOf p.1 p.2).2)
  | none => match getD p.1 p.2 with
    | some (.str z) => some (⟨[], true, strD z, false⟩, p.2)
    | _ => none
theorem serve_list {c : Cfg} {G H : Hp} {σ : St} {e : EnvD} {lk : List (Nat × Bool)} {f b : Bool} {p : Addr} {xs : List D} (hl : ∀ q ∈ lk, ∃ io f xs, e[q.1]? = some (.o io true f xs)) (L : Last c G σ e lk false f (.ref p) xs) :
    Serve c (Itl c.K p) ⟨lk, f, xs, b⟩ G σ e := by
  obtain ⟨p', e0, L⟩ := L
  cases e0
  refine ⟨hl, fun tm i x G1 H1 σ1 e1 hx s1 R1 l1 => ?_, fun tm i G1 H1 σ1 e1 hi s1 R1 l1 => ?_⟩
  · obtain ⟨ys, ra, hs⟩ := L tm G1 H1 σ1 e1 s1 R1 l1
    obtain ⟨v, hv, rv⟩ := ra.get hx
    refine ⟨⟨ys, v, hs, hv⟩, fun w H' y => ?_⟩
    obtain ⟨rfl, y⟩ := y
    have := y ys hs
    rw [hv] at this; cases this
    exact ⟨G1, Same.refl _, R1, rv⟩
  · obtain ⟨ys, ra, hs⟩ := L tm G1 H1 σ1 e1 s1 R1 l1
    exact ⟨ys, hs, by rw [ra.length]; exact hi⟩
theorem serve_tuple {c : Cfg} {G H : Hp} {σ : St} {e : EnvD} {lk : List (Nat × Bool)} {f b : Bool} {p : Addr} {xs : List D} (hl : ∀ q ∈ lk, ∃ io f xs, e[q.1]? = some (.o io true f xs)) (L : Last c G σ e lk true f (.ref p) xs) :
    Serve c (Itt c.K p) ⟨lk, f, xs, b⟩ G σ e := by
  obtain ⟨p', e0, L⟩ := L
  cases e0
  refine ⟨hl, fun tm i x G1 H1 σ1 e1 hx s1 R1 l1 => ?_, fun tm i G1 H1 σ1 e1 hi s1 R1 l1 => ?_⟩
  · obtain ⟨ys, ra, hs⟩ := L tm G1 H1 σ1 e1 s1 R1 l1
    obtain ⟨v, hv, rv⟩ := ra.get hx
    refine ⟨⟨ys, v, hs, hv⟩, fun w H' y => ?_⟩
    obtain ⟨rfl, y⟩ := y
    have := y ys hs
    rw [hv] at this; cases this
    exact ⟨G1, Same.refl _, R1, rv⟩
  · obtain ⟨ys, ra, hs⟩ := L tm G1 H1 σ1 e1 s1 R1 l1
    exact ⟨ys, hs, by rw [ra.length]; exact hi⟩
theorem serve_str {c : Cfg} {G : Hp} {σ : St} {e : EnvD} (z : Str) : Serve c (Its z) ⟨[], true, strD z, false⟩ G σ e := by
  refine ⟨fun p hp => (by cases hp), fun tm i x G1 H1 σ1 e1 hx s1 R1 l1 => ?_, fun tm i G1 H1 σ1 e1 hi s1 R1 l1 => ?_⟩
  · have hx' : (z.cps.toList.map fun c => PyData.str ⟨#[c]⟩)[i]? = some x := hx
    rw [List.getElem?_map] at hx'
    obtain ⟨cc, hc, rfl⟩ := Option.map_eq_some_iff.mp hx'
    rw [Array.getElem?_toList] at hc
    refine ⟨(Array.getElem?_eq_some_iff.mp hc).1, fun w H' y => ?_⟩
    obtain ⟨rfl, c2, h2, rfl⟩ := y
    rw [hc] at h2; cases h2
    exact ⟨G1, Same.refl _, R1, .str _⟩
  · have : (strD z).length ≤ i := hi
    unfold strD at this
    rw [List.length_map, Array.length_toList] at this
    exact this
theorem iSeq_ok {K : PySem.W.Frag} {ta : TE} {a : ME} (A : SE K ta a) : SI K (iAny K ta) (iSeq a) := by
  refine ⟨fun c hK G H σ e R s e' h Q q => ?_, fun e s e' h => ?_, fun e s e' h j io0 f0 xs0 z0 => ?_⟩
  · obtain ⟨⟨r, e1⟩, h1, h⟩ := Option.bind_eq_some_iff.mp h
    refine (settle_ok A).run c hK G H σ e R _ _ h1 _ fun v G1 H1 s1 R1 k1 => ?_
    subst hK
    simp only at h
    split at h
    · rename_i t f xs hv
      cases h
      obtain ⟨R2, l2, L2, _⟩ := lock_ok R1 k1 (settle_fix h1) hv
      obtain ⟨p, rfl, LL⟩ := L2
      obtain ⟨ys, ra, hs⟩ := LL c.tm G1 H1 σ _ (Same.refl _) R2 (fun _ _ => ⟨rfl, rfl⟩)
      cases t with
      | true =>
        refine .inr (.inl ⟨p, ys, rfl, hs, q _ G1 H1 s1 R2 (serve_tuple (H := H1) l2 ⟨p, rfl, LL⟩) fun _ lo => ?_⟩)
        have := lo.2 p ys hs
        rw [ra.length] at this; exact this
      | false =>
        refine .inl ⟨p, ys, rfl, hs, q _ G1 H1 s1 R2 (serve_list (H := H1) l2 ⟨p, rfl, LL⟩) fun _ lo => ?_⟩
        have := lo.1 p ys hs
        rw [ra.length] at this; exact this
    · split at h
      · rename_i z hz
        cases h
        exact .inr (.inr ⟨z, dp_str (getD_ok R1 k1 hz), q _ G1 H1 s1 R1 (serve_str z) fun z => by cases z⟩)
      · cases h
  · obtain ⟨⟨r, e1⟩, h1, h⟩ := Option.bind_eq_some_iff.mp h
    have kk := (settle_ok A).keep _ _ _ h1
    simp only at h
    split at h
    · cases h; exact kk.trans (lockOf_keep _ _)
    · split at h
      · cases h; exact kk
      · cases h
  · obtain ⟨⟨r, e1⟩, h1, h⟩ := Option.bind_eq_some_iff.mp h
    simp only at h
    split at h
    · cases h; exact lockOf_old ((settle_ok A).keep _ _ _ h1 _ _ _ _ z0)
    · split at h
      · cases h; exact fun hj => by cases hj
      · cases h
end DL
end
section
set_option maxHeartbeats 4000000
/-! DL6: range, enumerate, zip, reversed as what is walked. -/
namespace DL
open PySem PySem.Spec PyProof.Rows L2

def rangeD (lo : Int) (n : Nat) : List D := (List.range n).map fun (k : Nat) => PyData.int (lo + (k : Int))
theorem rangeD_get {lo : Int} {n i : Nat} {x : D} (h : (rangeD lo n)[i]? = some x) : i < n ∧ x = .int (lo + (i : Int)) := by
  unfold rangeD at h
  rw [List.getElem?_map] at h
  obtain ⟨k, h1, rfl⟩ := Option.map_eq_some_iff.mp h
  obtain ⟨h2, h3⟩ := List.getElem?_eq_some_iff.mp h1
  rw [List.getElem_range] at h3
  rw [List.length_range] at h2
  subst h3
  exact ⟨h2, rfl⟩
theorem rangeD_len (lo : Int) (n : Nat) : (rangeD lo n).length = n := by simp [rangeD]
theorem serve_range {c : Cfg} {G : Hp} {σ : St} {e : EnvD} (lo : Int) (n : Nat) : Serve c (Itr lo n) ⟨[], true, rangeD lo n, false⟩ G σ e := by
  refine ⟨fun p hp => (by cases hp), fun tm i x G1 H1 σ1 e1 hx s1 R1 l1 => ?_, fun tm i G1 H1 σ1 e1 hi s1 R1 l1 => ?_⟩
  · obtain ⟨h1, rfl⟩ := rangeD_get hx
    refine ⟨h1, fun w H' y => ?_⟩
    obtain ⟨rfl, rfl⟩ := y
    exact ⟨G1, Same.refl _, R1, .int _⟩
  · have : (rangeD lo n).length ≤ i := hi
    rw [rangeD_len] at this
    exact this
def inRg (i : Int) : Bool := decide (-(2 ^ 62) ≤ i) && decide (i < 2 ^ 62)
theorem inRg_iff {i : Int} : inRg i = true ↔ -(2 ^ 62) ≤ i ∧ i < 2 ^ 62 := by simp [inRg]
def iRg1 (a : ME) : MI := fun e => (a e).bind fun p => match getD p.1 p.2 with
  | some (.int j) => if inRg j = true then some (⟨[], true, rangeD 0 j.toNat, false⟩, p.2) else none
  | _ => none
section
variable {K : PySem.W.Frag}
theorem iRg1_ok {ta : TE} {a : ME} (A : SE K ta a) : SI K (iRng1 (tCons ta tNil)) (iRg1 a) := by
  refine ⟨fun c hK G H σ e R s e' h Q q => ?_, fun e s e' h => ?_, fun e s e' h j io0 f0 xs0 z0 => ?_⟩
  · obtain ⟨⟨r, e1⟩, h1, h⟩ := Option.bind_eq_some_iff.mp h
    refine A.run c hK G H σ e R _ _ h1 _ fun v G1 H1 s1 R1 k1 => ?_
    simp only at h
    split at h
    · rename_i j hj
      split at h
      · rename_i hb
        cases h
        obtain ⟨b1, b2⟩ := inRg_iff.mp hb
        rw [dp_int (getD_ok R1 k1 hj)]
        exact ⟨j, rfl, b1, b2, q _ G1 H1 s1 R1 (serve_range 0 j.toNat) fun z => by cases z⟩
      · cases h
    · cases h
  · obtain ⟨⟨r, e1⟩, h1, h⟩ := Option.bind_eq_some_iff.mp h
    simp only at h
    split at h
    · split at h
      · cases h; exact A.keep _ _ _ h1
      · cases h
    · cases h
  · obtain ⟨⟨r, e1⟩, h1, h⟩ := Option.bind_eq_some_iff.mp h
    simp only at h
    split at h
    · split at h
      · cases h; exact fun hj => by cases hj
      · cases h
    · cases h
def iRg2 (a b : ME) : MI := fun e => (settle a e).bind fun p => (settle b p.2).bind fun q => match getD p.1 q.2, getD q.1 q.2 with
  | some (.int i), some (.int j) => if inRg i = true ∧ inRg j = true then some (⟨[], true, rangeD i (j - i).toNat, false⟩, q.2) else none
  | _, _ => none
theorem iRg2_ok {ta tb : TE} {a b : ME} (A : SE K ta a) (B : SE K tb b) : SI K (iRng2 (tCons ta (tCons tb tNil))) (iRg2 a b) := by
  refine ⟨fun c hK G H σ e R s e' h Q q => ?_, fun e s e' h => ?_, fun e s e' h j io0 f0 xs0 z0 => ?_⟩
  · obtain ⟨⟨r1, e1⟩, h1, h⟩ := Option.bind_eq_some_iff.mp h
    obtain ⟨⟨r2, e2⟩, h2, h⟩ := Option.bind_eq_some_iff.mp h
    refine two_ok A B hK R h1 h2 fun v w G' H' s' R' k1 k2 => ?_
    simp only at h
    split at h
    · rename_i i j hi hj
      split at h
      · rename_i hb
        cases h
        obtain ⟨b1, b2⟩ := inRg_iff.mp hb.1
        obtain ⟨b3, b4⟩ := inRg_iff.mp hb.2
        rw [dp_int (getD_ok R' k1 hi), dp_int (getD_ok R' k2 hj)]
        exact ⟨i, j, rfl, ⟨b1, b2, b3, b4⟩, q _ G' H' s' R' (serve_range i _) fun z => by cases z⟩
      · cases h
    · cases h
  · obtain ⟨⟨r1, e1⟩, h1, h⟩ := Option.bind_eq_some_iff.mp h
    obtain ⟨⟨r2, e2⟩, h2, h⟩ := Option.bind_eq_some_iff.mp h
    have kk := keep_two A B h1 h2
    simp only at h
    split at h
    · split at h
      · cases h; exact kk
      · cases h
    · cases h
  · obtain ⟨⟨r1, e1⟩, h1, h⟩ := Option.bind_eq_some_iff.mp h
    obtain ⟨⟨r2, e2⟩, h2, h⟩ := Option.bind_eq_some_iff.mp h
    simp only at h
    split at h
    · split at h
      · cases h; exact fun hj => by cases hj
      · cases h
    · cases h
/-- downwards by ones -/
def downD (lo : Int) (n : Nat) : List D := (List.range n).map fun (k : Nat) => PyData.int (lo - (k : Int))
theorem downD_get {lo : Int} {n i : Nat} {x : D} (h : (downD lo n)[i]? = some x) : i < n ∧ x = .int (lo - (i : Int)) := by
  unfold downD at h
  rw [List.getElem?_map] at h
  obtain ⟨k, h1, rfl⟩ := Option.map_eq_some_iff.mp h
  obtain ⟨h2, h3⟩ := List.getElem?_eq_some_iff.mp h1
  rw [List.getElem_range] at h3
  rw [List.length_range] at h2
  subst h3
  exact ⟨h2, rfl⟩
theorem serve_down {c : Cfg} {G : Hp} {σ : St} {e : EnvD} (lo : Int) (n : Nat) : Serve c (Itc lo (-1) n) ⟨[], true, downD lo n, false⟩ G σ e := by
  refine ⟨fun p hp => (by cases hp), fun tm i x G1 H1 σ1 e1 hx s1 R1 l1 => ?_, fun tm i G1 H1 σ1 e1 hi s1 R1 l1 => ?_⟩
  · obtain ⟨h1, rfl⟩ := downD_get hx
    refine ⟨h1, fun w H' y => ?_⟩
    obtain ⟨rfl, rfl⟩ := y
    refine ⟨G1, Same.refl _, R1, ?_⟩
    rw [show lo + (i : Int) * -1 = lo - (i : Int) by omega]
    exact .int _
  · have : (downD lo n).length ≤ i := hi
    rw [show (downD lo n).length = n by simp [downD]] at this
    exact this
def iRg3 (a b d : ME) : MI := fun e => (settle a e).bind fun p => (settle b p.2).bind fun q => (settle d q.2).bind fun r => match getD p.1 r.2, getD q.1 r.2, getD r.1 r.2 with
  | some (.int i), some (.int j), some (.int k) => if inRg i = true ∧ inRg j = true ∧ k = -1 then some (⟨[], true, downD i (i - j).toNat, false⟩, r.2) else none
  | _, _, _ => none
theorem iRg3_ok {ta tb td : TE} {a b d : ME} (A : SE K ta a) (B : SE K tb b) (C : SE K td d) : SI K (iRng3 (tCons ta (tCons tb (tCons td tNil)))) (iRg3 a b d) := by
  refine ⟨fun c hK G H σ e R s e' h Q q => ?_, fun e s e' h => ?_, fun e s e' h j io0 f0 xs0 z0 => ?_⟩
  · obtain ⟨⟨r1, e1⟩, h1, h⟩ := Option.bind_eq_some_iff.mp h
    obtain ⟨⟨r2, e2⟩, h2, h⟩ := Option.bind_eq_some_iff.mp h
    obtain ⟨⟨r3, e3⟩, h3, h⟩ := Option.bind_eq_some_iff.mp h
    refine two_ok A B hK R h1 h2 fun v w G' H' s' R' k1 k2 => ?_
    refine (settle_ok C).run c hK G' H' σ e2 R' _ _ h3 _ fun u G2 H2 s2 R2 k3 => ?_
    have k1' : RvOk c G2 H2 σ e3 v r1 := k1.last (settle_fix h1) s2
    have k2' : RvOk c G2 H2 σ e3 w r2 := k2.last (settle_fix h2) s2
    simp only at h
    split at h
    · rename_i i j k hi hj hk
      split at h
      · rename_i hb
        obtain ⟨hb1, hb2, rfl⟩ := hb
        cases h
        obtain ⟨b1, b2⟩ := inRg_iff.mp hb1
        obtain ⟨b3, b4⟩ := inRg_iff.mp hb2
        rw [dp_int (getD_ok R2 k1' hi), dp_int (getD_ok R2 k2' hj), dp_int (getD_ok R2 k3 hk)]
        exact ⟨i, j, -1, _, rfl, RgC.neg b1 b2 b3 b4, q _ G2 H2 (s'.trans s2) R2 (serve_down i _) fun z => by cases z⟩
      · cases h
    · cases h
  · obtain ⟨⟨r1, e1⟩, h1, h⟩ := Option.bind_eq_some_iff.mp h
    obtain ⟨⟨r2, e2⟩, h2, h⟩ := Option.bind_eq_some_iff.mp h
    obtain ⟨⟨r3, e3⟩, h3, h⟩ := Option.bind_eq_some_iff.mp h
    have kk := (keep_two A B h1 h2).trans ((settle_ok C).keep _ _ _ h3)
    simp only at h
    split at h
    · split at h
      · cases h; exact kk
      · cases h
    · cases h
  · obtain ⟨⟨r1, e1⟩, h1, h⟩ := Option.bind_eq_some_iff.mp h
    obtain ⟨⟨r2, e2⟩, h2, h⟩ := Option.bind_eq_some_iff.mp h
    obtain ⟨⟨r3, e3⟩, h3, h⟩ := Option.bind_eq_some_iff.mp h
    simp only at h
    split at h
    · split at h
      · cases h; exact fun hj => by cases hj
      · cases h
    · cases h

/-! ### enumerate -/
def enumD (i0 : Nat) : List D → List D
  | [] => []
  | x :: xs => .tuple [.int (i0 : Nat), x] :: enumD (i0 + 1) xs
theorem enumD_get : ∀ {xs : List D} {i0 i : Nat} {y : D}, (enumD i0 xs)[i]? = some y → ∃ x, xs[i]? = some x ∧ y = .tuple [.int ((i0 + i : Nat)), x]
  | [], _, _, _, h => by simp [enumD] at h
  | x :: xs, i0, 0, y, h => by simp [enumD] at h; exact ⟨x, rfl, h.symm⟩
  | x :: xs, i0, i + 1, y, h => by
    have h' : (enumD (i0 + 1) xs)[i]? = some y := by simpa [enumD] using h
    obtain ⟨z, h1, h2⟩ := enumD_get h'
    exact ⟨z, by simpa using h1, by rw [h2, show i0 + 1 + i = i0 + (i + 1) by omega]⟩
theorem enumD_len : ∀ (xs : List D) (i0 : Nat), (enumD i0 xs).length = xs.length
  | [], _ => rfl
  | x :: xs, i0 => by simp [enumD, enumD_len xs]
def iEn (a : ME) : MI := fun e => (settle a e).bind fun p => match view p.1 p.2 with
  | some (false, f, xs) => some (⟨(lockOf p.1 p.2).1, f, enumD 0 xs, true⟩, (lockOf p.1 p.2).2)
  | _ => none
theorem serve_enum {c : Cfg} {G : Hp} {σ : St} {e : EnvD} {lk : List (Nat × Bool)} {f b : Bool} {p : Addr} {xs : List D} (hl : ∀ q ∈ lk, ∃ io f xs, e[q.1]? = some (.o io true f xs)) (L : Last c G σ e lk false f (.ref p) xs) :
    Serve c (Ite c.K p) ⟨lk, f, enumD 0 xs, b⟩ G σ e := by
  obtain ⟨p', e0, L⟩ := L
  cases e0
  refine ⟨hl, fun tm i x G1 H1 σ1 e1 hx s1 R1 l1 => ?_, fun tm i G1 H1 σ1 e1 hi s1 R1 l1 => ?_⟩
  · obtain ⟨ys, ra, hs⟩ := L tm G1 H1 σ1 e1 s1 R1 l1
    obtain ⟨z, hz, rfl⟩ := enumD_get hx
    obtain ⟨v, hv, rv⟩ := ra.get hz
    refine ⟨⟨ys, v, hs, hv⟩, fun w H' y => ?_⟩
    obtain ⟨T, u, rfl, hT, rfl, y⟩ := y
    have := y ys hs
    rw [hv] at this; cases this
    have gp := R1.frozen hT
    refine ⟨_, same_new gp, R1.newG hT, rv_tup gp (.cons ?_ (.cons rv .nil))⟩
    rw [Nat.zero_add]
    cases f with
    | true => exact .int _
    | false => exact .int _
  · obtain ⟨ys, ra, hs⟩ := L tm G1 H1 σ1 e1 s1 R1 l1
    have : (enumD 0 xs).length ≤ i := hi
    rw [enumD_len] at this
    exact ⟨ys, hs, by rw [ra.length]; exact this⟩
theorem iEn_ok {ta : TE} {a : ME} (A : SE K ta a) : SI K (iEnum K (tCons ta tNil)) (iEn a) := by
  refine ⟨fun c hK G H σ e R s e' h Q q => ?_, fun e s e' h => ?_, fun e s e' h j io0 f0 xs0 z0 => ?_⟩
  · obtain ⟨⟨r, e1⟩, h1, h⟩ := Option.bind_eq_some_iff.mp h
    refine (settle_ok A).run c hK G H σ e R _ _ h1 _ fun v G1 H1 s1 R1 k1 => ?_
    subst hK
    simp only at h
    split at h
    · rename_i f xs hv
      cases h
      obtain ⟨R2, l2, L2, _⟩ := lock_ok R1 k1 (settle_fix h1) hv
      obtain ⟨p, rfl, LL⟩ := L2
      obtain ⟨ys, ra, hs⟩ := LL c.tm G1 H1 σ _ (Same.refl _) R2 (fun _ _ => ⟨rfl, rfl⟩)
      refine ⟨p, ys, rfl, hs, q _ G1 H1 s1 R2 (serve_enum l2 ⟨p, rfl, LL⟩) fun _ lo => ?_⟩
      have := lo.1 p ys hs
      show (enumD 0 xs).length ≤ sizeLine
      rw [enumD_len, ← ra.length]; exact this
    · cases h
  · obtain ⟨⟨r, e1⟩, h1, h⟩ := Option.bind_eq_some_iff.mp h
    have kk := (settle_ok A).keep _ _ _ h1
    simp only at h
    split at h
    · cases h; exact kk.trans (lockOf_keep _ _)
    · cases h
  · obtain ⟨⟨r, e1⟩, h1, h⟩ := Option.bind_eq_some_iff.mp h
    simp only at h
    split at h
    · cases h; exact lockOf_old ((settle_ok A).keep _ _ _ h1 _ _ _ _ z0)
    · cases h

/-! ### zip of two lists -/
def zipD (xs ys : List D) : List D := List.zipWith (fun x y => .tuple [x, y]) xs ys
theorem zipD_get {xs ys : List D} {i : Nat} {z : D} (h : (zipD xs ys)[i]? = some z) : ∃ x y, xs[i]? = some x ∧ ys[i]? = some y ∧ z = .tuple [x, y] := by
  unfold zipD at h
  rw [List.getElem?_zipWith] at h
  split at h
  · rename_i x y h1 h2; cases h; exact ⟨x, y, h1, h2, rfl⟩
  · cases h
theorem zipD_len (xs ys : List D) : (zipD xs ys).length = min xs.length ys.length := by simp [zipD]
theorem Last.to {c : Cfg} {G0 : Hp} {σ0 : St} {e0 e1 : EnvD} {lk lk' : List (Nat × Bool)} {t f : Bool} {v : V} {xs : List D} (L : Last c G0 σ0 e0 lk t f v xs) (h : ∀ p ∈ lk, e0[p.1]? = e1[p.1]?) (hs : ∀ p ∈ lk, p ∈ lk') : Last c G0 σ0 e1 lk' t f v xs := by
  obtain ⟨p, e, L⟩ := L
  refine ⟨p, e, fun tm G H σ e s R l => L tm G H σ e s R fun q hq => ?_⟩
  obtain ⟨l1, l2⟩ := l q (hs q hq)
  exact ⟨by rw [h q hq]; exact l1, l2⟩
theorem Last.weak {c : Cfg} {G0 : Hp} {σ0 : St} {e0 : EnvD} {lk : List (Nat × Bool)} {t f : Bool} {v : V} {xs : List D} (L : Last c G0 σ0 e0 lk t f v xs) (f' : Bool) (h : f' = true → f = true ∨ xs.all sc = true) : Last c G0 σ0 e0 lk t f' v xs := by
  obtain ⟨p, e, L⟩ := L
  refine ⟨p, e, fun tm G H σ e s R l => ?_⟩
  obtain ⟨ys, ra, hs⟩ := L tm G H σ e s R l
  exact ⟨ys, ra.weakAll f' h, hs⟩
def iZp (a b : ME) : MI := fun e => (settle a e).bind fun p => (settle b p.2).bind fun q => match view p.1 q.2, view q.1 (lockOf p.1 q.2).2 with
  | some (false, f, xs), some (false, f', ys) => some (⟨(lockOf p.1 q.2).1 ++ (lockOf q.1 (lockOf p.1 q.2).2).1, (f || xs.all sc) && (f' || ys.all sc), zipD xs ys, true⟩, (lockOf q.1 (lockOf p.1 q.2).2).2)
  | _, _ => none
theorem iZp_ok {ta tb : TE} {a b : ME} (A : SE K ta a) (B : SE K tb b) : SI K (iZip K (tCons ta (tCons tb tNil))) (iZp a b) := by
  refine ⟨fun c hK G H σ e R s e' h Q q => ?_, fun e s e' h => ?_, fun e s e' h j io0 f0 xs0 z0 => ?_⟩
  · obtain ⟨⟨r1, e1⟩, h1, h⟩ := Option.bind_eq_some_iff.mp h
    obtain ⟨⟨r2, e2⟩, h2, h⟩ := Option.bind_eq_some_iff.mp h
    refine two_ok A B hK R h1 h2 fun v w G' H' s' R' k1 k2 => ?_
    subst hK
    simp only at h
    split at h
    · rename_i f xs f' ys hx hy
      cases h
      obtain ⟨R2, l2, L2, kp2⟩ := lock_ok R' k1 (settle_fix h1) hx
      have k2' : RvOk c G' H' σ (lockOf r1 e2).2 w r2 := k2.last (settle_fix h2) (Same.refl _)
      obtain ⟨R3, l3, L3, kp3⟩ := lock_ok R2 k2' (settle_fix h2) hy
      have same : ∀ p ∈ (lockOf r1 e2).1, (lockOf r1 e2).2[p.1]? = (lockOf r2 (lockOf r1 e2).2).2[p.1]? := fun p hp => by
        obtain ⟨io, f0, xs0, z⟩ := l2 p hp
        rw [z, kp3 _ _ _ _ z]
      have L2' := (L2.to (e1 := (lockOf r2 (lockOf r1 e2).2).2) (lk' := (lockOf r1 e2).1 ++ (lockOf r2 (lockOf r1 e2).2).1) same fun p hp => List.mem_append_left _ hp).weak ((f || xs.all sc) && (f' || ys.all sc)) (fun z => by
        rw [Bool.and_eq_true, Bool.or_eq_true] at z; exact z.1)
      have L3' := (L3.to (e1 := (lockOf r2 (lockOf r1 e2).2).2) (lk' := (lockOf r1 e2).1 ++ (lockOf r2 (lockOf r1 e2).2).1) (fun _ _ => rfl) fun p hp => List.mem_append_right _ hp).weak ((f || xs.all sc) && (f' || ys.all sc)) (fun z => by
        rw [Bool.and_eq_true, Bool.or_eq_true, Bool.or_eq_true] at z; exact z.2)
      obtain ⟨p, rfl, LL2⟩ := L2'
      obtain ⟨p', rfl, LL3⟩ := L3'
      obtain ⟨us, ra, hs⟩ := LL2 c.tm G' H' σ _ (Same.refl _) R3 (fun _ _ => ⟨rfl, rfl⟩)
      obtain ⟨us', ra', hs'⟩ := LL3 c.tm G' H' σ _ (Same.refl _) R3 (fun _ _ => ⟨rfl, rfl⟩)
      refine ⟨p, p', us, us', rfl, hs, hs', q _ G' H' s' R3 ⟨fun p hp => ?_, fun tm i x G1 H1 σ1 e1 hx s1 R1 l1 => ?_, fun tm i G1 H1 σ1 e1 hi s1 R1 l1 => ?_⟩ fun _ lo => ?_⟩
      · rcases List.mem_append.mp hp with hp | hp
        · obtain ⟨io, f0, xs0, z⟩ := l2 p hp
          exact ⟨io, f0, xs0, kp3 _ _ _ _ z⟩
        · exact l3 p hp
      · obtain ⟨vs1, ra1, hs1⟩ := LL2 tm G1 H1 σ1 e1 s1 R1 l1
        obtain ⟨vs2, ra2, hs2⟩ := LL3 tm G1 H1 σ1 e1 s1 R1 l1
        obtain ⟨x1, x2, g1, g2, rfl⟩ := zipD_get hx
        obtain ⟨v1, hv1, rv1⟩ := ra1.get g1
        obtain ⟨v2, hv2, rv2⟩ := ra2.get g2
        refine ⟨⟨vs1, vs2, v1, v2, hs1, hs2, hv1, hv2⟩, fun w H' y => ?_⟩
        obtain ⟨T, u1, u2, rfl, hT, rfl, y1, y2⟩ := y
        have := y1 vs1 hs1
        rw [hv1] at this; cases this
        have := y2 vs2 hs2
        rw [hv2] at this; cases this
        have gp := R1.frozen hT
        exact ⟨_, same_new gp, R1.newG hT, rv_tup gp (.cons rv1 (.cons rv2 .nil))⟩
      · obtain ⟨vs1, ra1, hs1⟩ := LL2 tm G1 H1 σ1 e1 s1 R1 l1
        obtain ⟨vs2, ra2, hs2⟩ := LL3 tm G1 H1 σ1 e1 s1 R1 l1
        have : (zipD xs ys).length ≤ i := hi
        rw [zipD_len] at this
        refine ⟨vs1, vs2, hs1, hs2, ?_⟩
        rw [ra1.length, ra2.length]
        omega
      · have := lo.1 p us hs
        show (zipD xs ys).length ≤ sizeLine
        rw [zipD_len]
        rw [ra.length] at this
        omega
    · cases h
  · obtain ⟨⟨r1, e1⟩, h1, h⟩ := Option.bind_eq_some_iff.mp h
    obtain ⟨⟨r2, e2⟩, h2, h⟩ := Option.bind_eq_some_iff.mp h
    have kk := keep_two A B h1 h2
    simp only at h
    split at h
    · cases h; exact (kk.trans (lockOf_keep _ _)).trans (lockOf_keep _ _)
    · cases h
  · obtain ⟨⟨r1, e1⟩, h1, h⟩ := Option.bind_eq_some_iff.mp h
    obtain ⟨⟨r2, e2⟩, h2, h⟩ := Option.bind_eq_some_iff.mp h
    simp only at h
    split at h
    · cases h
      intro hj
      have z1 := keep_two A B h1 h2 _ _ _ _ z0
      rcases List.mem_append.mp hj with hj | hj
      · exact lockOf_old z1 hj
      · exact lockOf_old (lockOf_keep _ _ _ _ _ _ z1) hj
    · cases h

/-! ### reversed of a list or tuple -/
def iRv (a : ME) : MI := fun e => (settle a e).bind fun p => match view p.1 p.2 with
  | some (_, f, xs) => some (⟨(lockOf p.1 p.2).1, f, xs.reverse, true⟩, (lockOf p.1 p.2).2)
  | none => none
theorem iRv_ok {ta : TE} {a : ME} (A : SE K ta a) : SI K (RT.iRevA K ta) (iRv a) := by
  refine ⟨fun c hK G H σ e R s e' h Q q => ?_, fun e s e' h => ?_, fun e s e' h j io0 f0 xs0 z0 => ?_⟩
  · obtain ⟨⟨r, e1⟩, h1, h⟩ := Option.bind_eq_some_iff.mp h
    refine (settle_ok A).run c hK G H σ e R _ _ h1 _ fun v G1 H1 s1 R1 k1 => ?_
    subst hK
    simp only at h
    split at h
    · rename_i t f xs hv
      cases h
      obtain ⟨R2, l2, L2, _⟩ := lock_ok R1 k1 (settle_fix h1) hv
      obtain ⟨p, rfl, LL⟩ := L2
      obtain ⟨ys, ra, hs⟩ := LL c.tm G1 H1 σ _ (Same.refl _) R2 (fun _ _ => ⟨rfl, rfl⟩)
      have rl : ∀ {zs : List D} {us : List V} {i : Nat} {x : D}, us.length = zs.length → zs.reverse[i]? = some x → i < us.length ∧ zs[us.length - 1 - i]? = some x := fun {zs us i x} hl h => by
        have hi : i < zs.length := by
          have := (List.getElem?_eq_some_iff.mp h).1
          rwa [List.length_reverse] at this
        rw [List.getElem?_reverse hi] at h
        rw [hl]; exact ⟨hi, h⟩
      cases t with
      | true =>
        refine ⟨p, ys, rfl, .inr ⟨hs, q _ G1 H1 s1 R2 ⟨l2, fun tm i x G3 H3 σ3 e3 hx s3 R3 l3 => ?_, fun tm i G3 H3 σ3 e3 hi s3 R3 l3 => ?_⟩ fun _ lo => ?_⟩⟩
        · obtain ⟨us, rb, hu⟩ := LL tm G3 H3 σ3 e3 s3 R3 l3
          have hlen : us.length = ys.length := by rw [rb.length, ra.length]
          obtain ⟨g1, g2⟩ := rl rb.length hx
          obtain ⟨v, hv, rv⟩ := rb.get g2
          rw [hlen] at g1 hv
          refine ⟨⟨g1, us, v, hu, hv⟩, fun w H' y => ?_⟩
          obtain ⟨rfl, y⟩ := y
          have := y us hu
          rw [hv] at this; cases this
          exact ⟨G3, Same.refl _, R3, rv⟩
        · have : xs.reverse.length ≤ i := hi
          rw [List.length_reverse, ← ra.length] at this
          exact this
        · have := lo.2 p ys hs
          show xs.reverse.length ≤ sizeLine
          rw [List.length_reverse, ← ra.length]; exact this
      | false =>
        refine ⟨p, ys, rfl, .inl ⟨hs, q _ G1 H1 s1 R2 ⟨l2, fun tm i x G3 H3 σ3 e3 hx s3 R3 l3 => ?_, fun tm i G3 H3 σ3 e3 hi s3 R3 l3 => ?_⟩ fun _ lo => ?_⟩⟩
        · obtain ⟨us, rb, hu⟩ := LL tm G3 H3 σ3 e3 s3 R3 l3
          have hlen : us.length = ys.length := by rw [rb.length, ra.length]
          obtain ⟨g1, g2⟩ := rl rb.length hx
          obtain ⟨v, hv, rv⟩ := rb.get g2
          rw [hlen] at g1 hv
          refine ⟨⟨g1, us, v, hu, hv⟩, fun w H' y => ?_⟩
          obtain ⟨rfl, y⟩ := y
          have := y us hu
          rw [hv] at this; cases this
          exact ⟨G3, Same.refl _, R3, rv⟩
        · have : xs.reverse.length ≤ i := hi
          rw [List.length_reverse, ← ra.length] at this
          exact this
        · have := lo.1 p ys hs
          show xs.reverse.length ≤ sizeLine
          rw [List.length_reverse, ← ra.length]; exact this
    · cases h
  · obtain ⟨⟨r, e1⟩, h1, h⟩ := Option.bind_eq_some_iff.mp h
    have kk := (settle_ok A).keep _ _ _ h1
    simp only at h
    split at h
    · cases h; exact kk.trans (lockOf_keep _ _)
    · cases h
  · obtain ⟨⟨r, e1⟩, h1, h⟩ := Option.bind_eq_some_iff.mp h
    simp only at h
    split at h
    · cases h; exact lockOf_old ((settle_ok A).keep _ _ _ h1 _ _ _ _ z0)
    · cases h
end
end DL
end
section
set_option maxHeartbeats 4000000
/-! DL7: list comprehensions. -/
namespace DL
open PySem PySem.Spec PyProof.Rows L2

section
variable {c : Cfg} {G G' H H' : Hp} {σ : St} {e : EnvD}
/-! ### a list in the making -/
theorem Rel.addTm {tm : List (Addr × HO)} (R : Rel (c.wt tm) G H σ e) {p : Addr} {ys : HO} (h : H p = some ys) (gp : G p = none) (no : ∀ i, isOw e i → σ[i]? ≠ some (some (.ref p))) : Rel (c.wt ((p, ys) :: tm)) G H σ e :=
  ⟨R.g0, R.gh, R.gn, R.hf, R.io, R.len, R.sl, R.dj, fun q zs m => by
    rcases List.mem_cons.mp m with m | m
    · cases m; exact ⟨h, gp, no⟩
    · exact R.tm q zs m⟩
theorem Rel.dropTm {tm : List (Addr × HO)} {p : Addr × HO} (R : Rel (c.wt (p :: tm)) G H σ e) : Rel (c.wt tm) G H σ e :=
  ⟨R.g0, R.gh, R.gn, R.hf, R.io, R.len, R.sl, R.dj, fun q zs m => R.tm q zs (List.mem_cons_of_mem _ m)⟩
theorem Rel.setTm {tm : List (Addr × HO)} {p : Addr} {ys : HO} (R : Rel (c.wt ((p, ys) :: tm)) G H σ e) (nt : p ∉ tm.map (·.1)) (h0 : c.H0 p = none) (zs : HO) : Rel (c.wt ((p, zs) :: tm)) G (upd H p zs) σ e := by
  obtain ⟨t1, t2, t3⟩ := R.tm p ys (List.mem_cons_self ..)
  refine ⟨R.g0, fun q u z => ?_, R.gn, fun q u z m => ?_, R.io, R.len, fun i s t hs ht => (R.sl i s t hs ht).grow (Same.refl _) fun q io lk f xs a b gq => ⟨gq, ?_⟩, R.dj, fun q us m => ?_⟩
  · rw [upd_ne (ne_of_none z t2)]; exact R.gh _ _ z
  · have hq : q ≠ p := fun z' => by subst z'; rw [show (c.wt ((q, zs) :: tm)).H0 q = c.H0 q from rfl, h0] at z; cases z
    rw [upd_ne hq]; exact R.hf _ _ z m
  · have hq : q ≠ p := fun z' => by
      subst z' a b
      exact t3 i ⟨_, _, _, _, ht⟩ hs
    rw [upd_ne hq]
  · rcases List.mem_cons.mp m with m1 | m1
    · cases m1; exact ⟨upd_same, t2, t3⟩
    · have hq : q ≠ p := fun z' => nt (z' ▸ List.mem_map.mpr ⟨(q, us), m1, rfl⟩)
      obtain ⟨u1, u2, u3⟩ := R.tm q us (List.mem_cons_of_mem _ m1)
      rw [upd_ne hq]; exact ⟨u1, u2, u3⟩

/-! ### the block's own names -/
def wipeE (e : EnvD) : List Nat → EnvD
  | [] => e
  | v :: vs => (wipeE e vs).set v .u
def noOw (e : EnvD) (vs : List Nat) : Bool := vs.all fun i => match e[i]? with
  | some (.o _ _ _ _) => false
  | _ => true
theorem noOw_iff {e : EnvD} {vs : List Nat} (h : noOw e vs = true) : ∀ i ∈ vs, ¬ isOw e i := fun i hi ⟨a, b, d, k, z⟩ => by
  have := List.all_eq_true.mp h i hi
  rw [z] at this; cases this
theorem wipeE_length (e : EnvD) : ∀ vs : List Nat, (wipeE e vs).length = e.length
  | [] => rfl
  | v :: vs => by unfold wipeE; rw [List.length_set, wipeE_length e vs]
theorem wipeE_out {e : EnvD} {i : Nat} : ∀ {vs : List Nat}, i ∉ vs → (wipeE e vs)[i]? = e[i]?
  | [], _ => rfl
  | v :: vs, h => by
    rw [List.mem_cons, not_or] at h
    unfold wipeE
    rw [List.getElem?_set_ne (Ne.symm h.1), wipeE_out h.2]
theorem wipeE_in {e : EnvD} {i : Nat} : ∀ {vs : List Nat}, i ∈ vs → ∀ t, (wipeE e vs)[i]? = some t → t = .u
  | v :: vs, h, t, ht => by
    unfold wipeE at ht
    by_cases hv : v = i
    · subst hv
      have hl := (List.getElem?_eq_some_iff.mp ht).1
      rw [List.length_set] at hl
      rw [List.getElem?_set_self hl] at ht
      cases ht; rfl
    · rw [List.getElem?_set_ne hv] at ht
      rcases List.mem_cons.mp h with h | h
      · exact absurd h.symm hv
      · exact wipeE_in h t ht
theorem wipe_outS {σ : St} {i : Nat} : ∀ {vs : List Nat}, i ∉ vs → (wipe σ vs)[i]? = σ[i]?
  | [], _ => rfl
  | v :: vs, h => by
    rw [List.mem_cons, not_or] at h
    unfold wipe
    rw [List.getElem?_set_ne (Ne.symm h.1), wipe_outS h.2]
theorem isOw_wipe {e : EnvD} {vs : List Nat} {i : Nat} (h : isOw (wipeE e vs) i) : i ∉ vs ∧ isOw e i := by
  obtain ⟨a, b, d, k, z⟩ := h
  have hi : i ∉ vs := fun hm => by have := wipeE_in hm _ z; cases this
  exact ⟨hi, _, _, _, _, by rw [wipeE_out hi] at z; exact z⟩
theorem Rel.wiped (R : Rel c G H σ e) {vs : List Nat} (n : ∀ i ∈ vs, ¬ isOw e i) : Rel c G H (wipe σ vs) (wipeE e vs) := by
  refine ⟨R.g0, R.gh, R.gn, R.hf, fun i p m => ?_, by rw [wipe_length, wipeE_length]; exact R.len, fun i s t hs ht => ?_, fun i j p oi oj hi hj => ?_, fun p ys m => ?_⟩
  · obtain ⟨a, lk, f, xs, b⟩ := R.io i p m
    have hi : i ∉ vs := fun hm => n i hm ⟨_, _, _, _, b⟩
    exact ⟨by rw [wipe_outS hi]; exact a, _, _, _, by rw [wipeE_out hi]; exact b⟩
  · by_cases hi : i ∈ vs
    · rw [wipeE_in hi t ht]; trivial
    · rw [wipe_outS hi] at hs
      rw [wipeE_out hi] at ht
      exact R.sl i s t hs ht
  · obtain ⟨ni, oi'⟩ := isOw_wipe oi
    obtain ⟨nj, oj'⟩ := isOw_wipe oj
    rw [wipe_outS ni] at hi
    rw [wipe_outS nj] at hj
    exact R.dj i j p oi' oj' hi hj
  · obtain ⟨t1, t2, t3⟩ := R.tm p ys m
    refine ⟨t1, t2, fun i oi => ?_⟩
    obtain ⟨ni, oi'⟩ := isOw_wipe oi
    rw [wipe_outS ni]
    exact t3 i oi'
/-- the def's own slots again -/
def restE (e1 : EnvD) (e2 : EnvD) : List Nat → EnvD
  | [] => e2
  | v :: vs => (restE e1 e2 vs).set v (e1.getD v .u)
theorem restE_length (e1 e2 : EnvD) : ∀ vs : List Nat, (restE e1 e2 vs).length = e2.length
  | [] => rfl
  | v :: vs => by unfold restE; rw [List.length_set, restE_length e1 e2 vs]
theorem restE_out {e1 e2 : EnvD} {i : Nat} : ∀ {vs : List Nat}, i ∉ vs → (restE e1 e2 vs)[i]? = e2[i]?
  | [], _ => rfl
  | v :: vs, h => by
    rw [List.mem_cons, not_or] at h
    unfold restE
    rw [List.getElem?_set_ne (Ne.symm h.1), restE_out h.2]
theorem restE_in {e1 e2 : EnvD} {i : Nat} (hl : e2.length = e1.length) : ∀ {vs : List Nat}, i ∈ vs → (restE e1 e2 vs)[i]? = e1[i]?
  | v :: vs, h => by
    unfold restE
    by_cases hv : v = i
    · subst hv
      by_cases hb : v < e1.length
      · rw [List.getElem?_set_self (by rw [restE_length, hl]; exact hb), List.getElem?_eq_getElem hb, List.getD_eq_getElem?_getD, List.getElem?_eq_getElem hb]; rfl
      · rw [List.getElem?_eq_none (by rw [List.length_set, restE_length, hl]; omega), List.getElem?_eq_none (by omega)]
    · rw [List.getElem?_set_ne hv]
      rcases List.mem_cons.mp h with h | h
      · exact absurd h.symm hv
      · exact restE_in hl h
theorem Rel.restored {G1 H1 : Hp} {e1 e2 : EnvD} {vs : List Nat} (R1 : Rel c G1 H1 σ e1) (n : ∀ i ∈ vs, ¬ isOw e1 i) (s : Same G1 G) (R2 : Rel c G H (wipe σ vs) e2) : Rel c G H σ (restE e1 e2 vs) := by
  have hl : e2.length = e1.length := by rw [← R2.len, ← R1.len, wipe_length]
  have own : ∀ i, isOw (restE e1 e2 vs) i → i ∉ vs ∧ isOw e2 i := fun i ⟨a, b, d, k, z⟩ => by
    by_cases hi : i ∈ vs
    · rw [restE_in hl hi] at z
      exact absurd ⟨_, _, _, _, z⟩ (n i hi)
    · rw [restE_out hi] at z
      exact ⟨hi, _, _, _, _, z⟩
  refine ⟨R2.g0, R2.gh, R2.gn, R2.hf, fun i p m => ?_, by rw [restE_length, ← R2.len, wipe_length], fun i s' t hs ht => ?_, fun i j p oi oj hi hj => ?_, fun p ys m => ?_⟩
  · obtain ⟨a, lk, f, xs, b⟩ := R1.io i p m
    have hi : i ∉ vs := fun hm => n i hm ⟨_, _, _, _, b⟩
    obtain ⟨_, lk2, f2, xs2, b2⟩ := R2.io i p m
    exact ⟨a, _, _, _, by rw [restE_out hi]; exact b2⟩
  · by_cases hi : i ∈ vs
    · rw [restE_in hl hi] at ht
      have q := R1.sl i s' t hs ht
      cases t with
      | u => trivial
      | v f x => obtain ⟨v, e1, r⟩ := q; exact ⟨v, e1, r.mono s⟩
      | o io lk f xs => exact absurd ⟨_, _, _, _, ht⟩ (n i hi)
      | s ns => obtain ⟨a, e1, r⟩ := q; exact ⟨a, e1, s.seq r⟩
      | ob f cl fs => obtain ⟨v, e1, r⟩ := q; exact ⟨v, e1, r.mono s⟩
    · rw [restE_out hi] at ht
      exact R2.sl i s' t (by rw [wipe_outS hi]; exact hs) ht
  · obtain ⟨ni, oi'⟩ := own i oi
    obtain ⟨nj, oj'⟩ := own j oj
    exact R2.dj i j p oi' oj' (by rw [wipe_outS ni]; exact hi) (by rw [wipe_outS nj]; exact hj)
  · obtain ⟨t1, t2, t3⟩ := R2.tm p ys m
    refine ⟨t1, t2, fun i oi => ?_⟩
    obtain ⟨ni, oi'⟩ := own i oi
    have := t3 i oi'
    rwa [wipe_outS ni] at this
/-- locks are taken again -/
def unlock : List (Nat × Bool) → EnvD → EnvD
  | [], e => e
  | (j, true) :: r, e => match e[j]? with
    | some (.o io true f xs) => unlock r (e.set j (.o io false f xs))
    | _ => unlock r e
  | (_, false) :: r, e => unlock r e
theorem Rel.unlocked : ∀ {lk : List (Nat × Bool)} {e : EnvD}, Rel c G H σ e → Rel c G H σ (unlock lk e)
  | [], _, R => R
  | (j, true) :: r, e, R => by
    unfold unlock
    split
    · rename_i h; exact Rel.unlocked (R.relock false h)
    · exact Rel.unlocked R
  | (_, false) :: r, e, R => by unfold unlock; exact Rel.unlocked R
theorem isOw_unlock : ∀ {lk : List (Nat × Bool)} {e : EnvD} {i : Nat}, isOw (unlock lk e) i → isOw e i
  | [], _, _, h => h
  | (j, true) :: r, e, i, h => by
    unfold unlock at h
    split at h
    · rename_i io f xs hj
      obtain ⟨a, b, d, k, z⟩ := isOw_unlock h
      by_cases hi : j = i
      · subst hi; exact ⟨_, _, _, _, hj⟩
      · rw [List.getElem?_set_ne hi] at z; exact ⟨_, _, _, _, z⟩
    · exact isOw_unlock h
  | (_, false) :: r, e, i, h => by unfold unlock at h; exact isOw_unlock h
theorem unlock_out : ∀ {lk : List (Nat × Bool)} {e : EnvD} {j : Nat}, (j, true) ∉ lk → (unlock lk e)[j]? = e[j]?
  | [], _, _, _ => rfl
  | (i, true) :: r, e, j, h => by
    rw [List.mem_cons, not_or] at h
    have hij : i ≠ j := fun z => by subst z; exact h.1 rfl
    unfold unlock
    split
    · rw [unlock_out h.2, List.getElem?_set_ne hij]
    · exact unlock_out h.2
  | (_, false) :: r, e, j, h => by
    rw [List.mem_cons, not_or] at h
    unfold unlock; exact unlock_out h.2
end

/-! ### the comprehension -/
def lcLoop (tg : Tg) (tt : MT) (te : ME) (vs : List Nat) (f : Bool) : List D → EnvD → Option (List (Bool × D) × EnvD)
  | [], e => some ([], e)
  | x :: xs, e => (bindT tg f x e).bind fun e1 => (tt e1).bind fun p =>
      if p.1 = true then (mEsc te p.2).bind fun q => if noOw q.2 vs = true then (lcLoop tg tt te vs f xs (wipeE q.2 vs)).map fun r => (q.1 :: r.1, r.2) else none
      else if noOw p.2 vs = true then lcLoop tg tt te vs f xs (wipeE p.2 vs) else none
def mLc (src : MI) (tg : Tg) (tt : MT) (te : ME) (vs : List Nat) : ME := fun e => (src e).bind fun p =>
  if noOw p.2 vs = true ∧ (p.1.b = true ∨ p.1.ds.length ≤ sizeLine) then
    (lcLoop tg tt te vs p.1.f p.1.ds (wipeE p.2 vs)).map fun q => (.new (flagOf q.1) (q.1.map (·.2)), unlock p.1.lk (restE p.2 q.2 vs))
  else none
def mtYes : MT := fun e => some (true, e)
theorem mtYes_ok {K : PySem.W.Frag} : ST K tYes mtYes := ⟨fun c hK G H σ e R b e' h Q q => by cases h; exact q G H (Same.refl _) R, fun e r e' h => by cases h; exact Keep.refl _⟩
theorem RvL.snoc {c : Cfg} {G : Hp} {v : V} {p : Bool × D} (k : Rv c G p.1 v p.2) : ∀ {vs : List V} {ps : List (Bool × D)}, RvL c G vs ps → RvL c G (vs ++ [v]) (ps ++ [p])
  | [], [], _ => ⟨k, trivial⟩
  | _ :: _, _ :: _, h => ⟨h.1, RvL.snoc k h.2⟩
  | [], _ :: _, h => h.elim
  | _ :: _, [], h => h.elim
theorem touch_wipe {vs sl : List Nat} {σ σ' : St} {e e' : EnvD} (t : Touch sl (wipe σ vs) e σ' e') (hsl : ∀ j ∈ sl, j ∈ vs) : wipe σ' vs = wipe σ vs := by
  apply List.ext_getElem?
  intro j
  by_cases hj : j ∈ vs
  · have a1 : ∀ (τ : St), (wipe τ vs)[j]? = if j < τ.length then some none else none := fun τ => by
      by_cases hb : j < τ.length
      · rw [if_pos hb]
        cases q : (wipe τ vs)[j]? with
        | none => rw [List.getElem?_eq_none_iff, wipe_length] at q; omega
        | some s =>
          cases s with
          | none => rfl
          | some x => exact absurd hj (wipe_some q).2
      · rw [if_neg hb, List.getElem?_eq_none]
        rw [wipe_length]; omega
    rw [a1, a1, t.l, wipe_length]
  · have b : j ∉ sl := fun z => hj (hsl j z)
    rw [wipe_outS hj, t.s j b]
theorem lcLoop_keep {K : PySem.W.Frag} {gs : List Nat} {g : TG} {tg : Tg} {tt0 : TT} {te0 : TE} {tt : MT} {te : ME} {vs : List Nat} (hT : ST K tt0 tt) (hE : SE K te0 te) (hbk : ∀ f x e e', bindT tg f x e = some e' → Keep e e') {f : Bool} :
    ∀ {ds : List D} {e e' : EnvD} {r : List (Bool × D)}, lcLoop tg tt te vs f ds e = some (r, e') → ∀ (j : Nat) io f' xs, j ∉ vs → e[j]? = some (.o io true f' xs) → e'[j]? = some (.o io true f' xs)
  | [], e, e', r, h, j, io, f', xs, hj, z => by cases h; exact z
  | x :: ds, e, e', r, h, j, io, f', xs, hj, z => by
    unfold lcLoop at h
    obtain ⟨e1, h1, h⟩ := Option.bind_eq_some_iff.mp h
    obtain ⟨⟨b, e2⟩, h2, h⟩ := Option.bind_eq_some_iff.mp h
    have z1 := hbk _ _ _ _ h1 _ _ _ _ z
    have z2 := hT.keep _ _ _ h2 _ _ _ _ z1
    simp only at h
    split at h
    · obtain ⟨⟨y, e3⟩, h3, h⟩ := Option.bind_eq_some_iff.mp h
      simp only at h
      split at h
      · obtain ⟨⟨ys, e4⟩, h4, h⟩ := Option.map_eq_some_iff.mp h
        cases h
        have z3 := (mEsc_ok hE).keep _ _ _ h3 _ _ _ _ z2
        exact lcLoop_keep (gs := gs) (g := g) hT hE hbk h4 j io f' xs hj (by rw [wipeE_out hj]; exact z3)
      · cases h
    · split at h
      · exact lcLoop_keep (gs := gs) (g := g) hT hE hbk h j io f' xs hj (by rw [wipeE_out hj]; exact z2)
      · cases h
theorem bindT_keep : (∀ tg f x e e', bindT tg f x e = some e' → Keep e e') := by
  intro tg
  apply Tg.rec (motive_1 := fun tg => ∀ f x e e', bindT tg f x e = some e' → Keep e e') (motive_2 := fun ts => ∀ f xs e e', bindTs ts f xs e = some e' → Keep e e')
  · intro i f x e e' h
    unfold bindT at h
    split at h
    · rename_i hf
      cases h
      intro j io f' xs z
      have hj : i ≠ j := fun y => by subst y; exact free_lk hf _ _ _ z
      rw [List.getElem?_set_ne hj]; exact z
    · cases h
  · intro ts ih f x e e' h
    unfold bindT at h
    split at h
    · exact ih _ _ _ _ h
    · cases h
  · intro f xs e e' h
    cases xs with
    | nil => unfold bindTs at h; cases h; exact Keep.refl _
    | cons x xs => unfold bindTs at h; cases h
  · intro t ts iht ihs f xs e e' h
    cases xs with
    | nil => unfold bindTs at h; cases h
    | cons x xs =>
      unfold bindTs at h
      obtain ⟨e1, h1, h2⟩ := Option.bind_eq_some_iff.mp h
      exact (iht _ _ _ _ h1).trans (ihs _ _ _ _ h2)
theorem mLc_ok {K : PySem.W.Frag} {wi : TI} {g : TG} {sl : List Nat} {tt0 : TT} {te0 : TE} {src : MI} {tg : Tg} {tt : MT} {te : ME} {vs : List Nat}
    (hI : SI K wi src) (hG : SG g sl (bindT tg)) (hsl : ∀ j ∈ sl, j ∈ vs) (hT : ST K tt0 tt) (hE : SE K te0 te) :
    SE K (tLc (fun σ H R => wi σ H fun J H1 => LenOk K H1 → R J H1) g tt0 te0 vs) (mLc src tg tt te vs) := by
  refine ⟨fun c hK G H σ e R r e' h Q q => ?_, fun e r e' h => ?_⟩
  · obtain ⟨⟨s, e1⟩, h1, h⟩ := Option.bind_eq_some_iff.mp h
    simp only at h
    split at h
    · rename_i hc
      obtain ⟨hno, hb⟩ := hc
      obtain ⟨⟨res, e2⟩, h2, h⟩ := Option.map_eq_some_iff.mp h
      cases h
      subst hK
      refine hI.run c rfl G H σ e R _ _ h1 _ fun J G1 H1 s1 R1 SV bd lo D hD => ?_
      have hlen : s.ds.length ≤ sizeLine := by
        rcases hb with hb | hb
        · exact bd hb lo
        · exact hb
      have n1 := noOw_iff hno
      have gD := R1.frozen hD
      have h0D := R1.there hD
      have ntD : D ∉ c.tm.map (·.1) := fun m => by
        obtain ⟨⟨p2, zs⟩, m1, m2⟩ := List.mem_map.mp m
        cases m2
        have := (R1.tm _ _ m1).1
        rw [hD] at this; cases this
      have lkvs : ∀ p ∈ s.lk, p.1 ∉ vs := fun p hp hm => by
        obtain ⟨io, f, xs, z⟩ := SV.lkd p hp
        exact n1 _ hm ⟨_, _, _, _, z⟩
      refine ⟨fun i m H => ∃ G' ei acc accD rest, Same G1 G' ∧ Rel (c.wt ((D, HO.lst acc) :: c.tm)) G' H (wipe σ vs) ei ∧ RvL c G' acc accD ∧ lcLoop tg tt te vs s.f (s.ds.drop i) ei = some (rest, e2) ∧ accD ++ rest = res ∧ accD.length ≤ i ∧ m = s.ds.length - i ∧ i ≤ s.ds.length ∧ (∀ p ∈ s.lk, ei[p.1]? = e1[p.1]?), ⟨s.ds.length, G1, wipeE e1 vs, [], [], res, Same.refl _, ?_, trivial, h2, rfl, Nat.le_refl _, rfl, Nat.zero_le _, fun p hp => wipeE_out (lkvs p hp)⟩, ?_⟩
      · have R1' : Rel c G1 (upd H1 D (.lst [])) σ e1 := R1.newH hD
        refine Rel.addTm (tm := c.tm) (Rel.wiped R1' n1) upd_same gD fun i oi z => ?_
        obtain ⟨ni, oi'⟩ := isOw_wipe oi
        rw [wipe_outS ni] at z
        obtain ⟨io, lk, f, xs, he⟩ := oi'
        obtain ⟨p', ys, e3, _, e4, _⟩ := R1.ow he
        rw [z] at e3; cases e3
        rw [hD] at e4; cases e4
      · rintro i m Hi ⟨Gi, ei, acc, accD, rest, si, Ri, ra, hl, hres, hai, rfl, hi, hlk⟩
        have LK : LkOk e1 σ s.lk ei (wipe σ vs) := fun p hp => ⟨hlk p hp, wipe_outS (lkvs p hp)⟩
        by_cases hlt : i < s.ds.length
        · have hx : s.ds[i]? = some s.ds[i] := List.getElem?_eq_getElem hlt
          obtain ⟨go, yl⟩ := SV.item _ i _ Gi Hi _ ei hx si Ri LK
          refine .inr ⟨go, fun H' => ∃ G' ei acc accD rest, Same G1 G' ∧ Rel (c.wt ((D, HO.lst acc) :: c.tm)) G' H' (wipe σ vs) ei ∧ RvL c G' acc accD ∧ lcLoop tg tt te vs s.f (s.ds.drop (i + 1)) ei = some (rest, e2) ∧ accD ++ rest = res ∧ accD.length ≤ i + 1 ∧ (∀ p ∈ s.lk, ei[p.1]? = e1[p.1]?), fun H' ⟨G', ei', acc', accD', rest', a1, a2, a3, a4, a5, a6, a7⟩ => ⟨s.ds.length - (i + 1), by omega, G', ei', acc', accD', rest', a1, a2, a3, a4, a5, a6, rfl, hlt, a7⟩, fun v H' y => ?_⟩
          obtain ⟨G2, s2, R2, k2⟩ := yl v H' y
          rw [List.drop_eq_getElem_cons hlt] at hl
          unfold lcLoop at hl
          obtain ⟨eb, b1, hl⟩ := Option.bind_eq_some_iff.mp hl
          obtain ⟨⟨bb, et⟩, b2, hl⟩ := Option.bind_eq_some_iff.mp hl
          refine hG.run _ G2 H' _ ei R2 s.f v _ eb k2 b1 _ fun σ2 R3 t3 => ⟨touch_wipe t3 hsl, ?_⟩
          refine hT.run (c.wt ((D, HO.lst acc) :: c.tm)) rfl G2 H' σ2 eb R3 bb et b2 _ fun G4 H4 s4 R4 => ?_
          have lk5 : ∀ {e5 : EnvD}, Keep ei e5 → ∀ p ∈ s.lk, (wipeE e5 vs)[p.1]? = e1[p.1]? := fun {e5} kp p hp => by
            obtain ⟨io, f, xs, z⟩ := SV.lkd p hp
            rw [wipeE_out (lkvs p hp), z]
            exact kp _ _ _ _ (by rw [hlk p hp]; exact z)
          simp only at hl
          cases bb with
          | true =>
            rw [if_pos rfl] at hl ⊢
            obtain ⟨⟨⟨fy, y⟩, e3⟩, b3, hl⟩ := Option.bind_eq_some_iff.mp hl
            simp only at hl
            split at hl
            · rename_i n5
              obtain ⟨⟨r', e4⟩, b4, hl⟩ := Option.map_eq_some_iff.mp hl
              cases hl
              refine (mEsc_ok hE).run (c.wt ((D, HO.lst acc) :: c.tm)) rfl G4 H4 σ2 et R4 fy y e3 b3 _ fun w G5 H5 s5 R5 k5 => ?_
              obtain ⟨t1, t2, t3'⟩ := R5.tm D (.lst acc) (List.mem_cons_self ..)
              have ra5 : RvL c G5 acc accD := ra.mono ((s2.trans s4).trans s5)
              refine ⟨acc, t1, by rw [ra5.length]; omega, G5, wipeE e3 vs, acc ++ [w], accD ++ [(fy, y)], r', ((si.trans s2).trans s4).trans s5, ?_, RvL.snoc (c := c) (p := (fy, y)) k5 ra5, b4, by rw [← hres, List.append_assoc]; rfl, by rw [List.length_append, List.length_singleton]; omega, lk5 ?_⟩
              · have R6 := Rel.setTm (tm := c.tm) R5 ntD h0D (.lst (acc ++ [w]))
                have R7 := Rel.wiped R6 (noOw_iff n5)
                rw [touch_wipe t3 hsl] at R7
                exact R7
              · exact ((bindT_keep _ _ _ _ _ b1).trans (hT.keep _ _ _ b2)).trans ((mEsc_ok hE).keep _ _ _ b3)
            · cases hl
          | false =>
            rw [if_neg (by decide)] at hl ⊢
            split at hl
            · rename_i n5
              refine ⟨G4, wipeE et vs, acc, accD, rest, (si.trans s2).trans s4, ?_, ra.mono (s2.trans s4), hl, hres, by omega, lk5 ((bindT_keep _ _ _ _ _ b1).trans (hT.keep _ _ _ b2))⟩
              have R7 := Rel.wiped R4 (noOw_iff n5)
              rw [touch_wipe t3 hsl] at R7
              exact R7
            · cases hl
        · have hie : i = s.ds.length := by omega
          subst hie
          rw [List.drop_length] at hl
          unfold lcLoop at hl
          obtain ⟨hr0, he0⟩ := Prod.mk.inj (Option.some.inj hl)
          subst hr0
          rw [List.append_nil] at hres
          subst hres
          subst he0
          refine .inl ⟨SV.stop _ _ Gi Hi _ _ (Nat.le_refl _) si Ri LK, ?_⟩
          obtain ⟨t1, t2, t3⟩ := Ri.tm D (.lst acc) (List.mem_cons_self ..)
          have R5 := Rel.restored R1 n1 si (Rel.dropTm (c := c) (tm := c.tm) Ri)
          have hle := Ri.len
          rw [wipe_length, R1.len] at hle
          refine q _ Gi Hi (s1.trans si) R5.unlocked ⟨D, acc, rfl, t2, t1, ra.all fun z => z, h0D, ntD, fun j oj z => ?_⟩
          obtain ⟨a, b, d, k, zz⟩ := isOw_unlock oj
          by_cases hj : j ∈ vs
          · rw [restE_in hle.symm hj] at zz
            exact n1 j hj ⟨_, _, _, _, zz⟩
          · rw [restE_out hj] at zz
            exact t3 j ⟨_, _, _, _, zz⟩ (by rw [wipe_outS hj]; exact z)
    · cases h
  · obtain ⟨⟨s, e1⟩, h1, h⟩ := Option.bind_eq_some_iff.mp h
    simp only at h
    split at h
    · rename_i hc
      obtain ⟨⟨res, e2⟩, h2, h⟩ := Option.map_eq_some_iff.mp h
      cases h
      intro j io f xs z
      have z1 := hI.keep _ _ _ h1 _ _ _ _ z
      have hj : j ∉ vs := fun hm => noOw_iff hc.1 j hm ⟨_, _, _, _, z1⟩
      have hu : (j, true) ∉ s.lk := hI.unl _ _ _ h1 j io f xs z
      rw [unlock_out hu, restE_out hj]
      exact lcLoop_keep (gs := sl) (g := g) hT hE (bindT_keep tg) h2 j io f xs hj (by rw [wipeE_out hj]; exact z1)
    · cases h
end DL
end
section
set_option maxHeartbeats 4000000
/-! DL8: statements. -/
namespace DL
open PySem PySem.Spec PyProof.Rows L2

inductive Out where
  | nx (e : EnvD)
  | bk (e : EnvD)
  | ct (e : EnvD)
  | rt (r : RV) (e : EnvD)
abbrev MS := EnvD → Option Out
def KeepS (σ : St) (e : EnvD) (σ' : St) (e' : EnvD) : Prop := ∀ (j : Nat) io f xs, e[j]? = some (.o io true f xs) → e'[j]? = some (.o io true f xs) ∧ σ'[j]? = σ[j]?
theorem KeepS.refl (σ : St) (e : EnvD) : KeepS σ e σ e := fun _ _ _ _ h => ⟨h, rfl⟩
theorem KeepS.trans {σ σ1 σ2 : St} {e e1 e2 : EnvD} (a : KeepS σ e σ1 e1) (b : KeepS σ1 e1 σ2 e2) : KeepS σ e σ2 e2 := fun j io f xs h => by
  obtain ⟨h1, h2⟩ := a j io f xs h
  obtain ⟨h3, h4⟩ := b j io f xs h1
  exact ⟨h3, h4.trans h2⟩
theorem Keep.s {e e' : EnvD} (k : Keep e e') (σ : St) : KeepS σ e σ e' := fun j io f xs h => ⟨k j io f xs h, rfl⟩
theorem Touch.ks {sl : List Nat} {σ σ' : St} {e e' : EnvD} (t : Touch sl σ e σ' e') : KeepS σ e σ' e' := t.k
def EndOk (c : Cfg) (G : Hp) (σ : St) (e : EnvD) (o : Out) (D : Ends) : Prop := match o with
  | .nx e' => ∀ σ' G' H', Same G G' → Rel c G' H' σ' e' → KeepS σ e σ' e' → D.nx σ' H'
  | .bk e' => ∀ σ' G' H', Same G G' → Rel c G' H' σ' e' → KeepS σ e σ' e' → D.bk σ' H'
  | .ct e' => ∀ σ' G' H', Same G G' → Rel c G' H' σ' e' → KeepS σ e σ' e' → D.ct σ' H'
  | .rt r e' => ∀ v σ' G' H', Same G G' → Rel c G' H' σ' e' → RvOk c G' H' σ' e' v r → KeepS σ e σ' e' → D.rt v H'
structure SS (K : PySem.W.Frag) (ts : TS) (m : MS) : Prop where
  run : ∀ c : Cfg, c.K = K → ∀ G H σ e, Rel c G H σ e → ∀ o, m e = some o → ∀ D : Ends, EndOk c G σ e o D → ts D σ H
/-- an end that was reached over a middle state -/
theorem EndOk.mid {c : Cfg} {G G1 : Hp} {σ σ1 : St} {e e1 : EnvD} {o : Out} {D : Ends} (h : EndOk c G σ e o D) (s : Same G G1) (k : KeepS σ e σ1 e1) : EndOk c G1 σ1 e1 o D := by
  cases o with
  | nx e' => exact fun σ' G' H' s' R k' => h σ' G' H' (s.trans s') R (k.trans k')
  | bk e' => exact fun σ' G' H' s' R k' => h σ' G' H' (s.trans s') R (k.trans k')
  | ct e' => exact fun σ' G' H' s' R k' => h σ' G' H' (s.trans s') R (k.trans k')
  | rt r e' => exact fun v σ' G' H' s' R q k' => h v σ' G' H' (s.trans s') R q (k.trans k')

section
variable {K : PySem.W.Frag}
def sNil : MS := fun e => some (.nx e)
def sSeq (a b : MS) : MS := fun e => (a e).bind fun o => match o with
  | .nx e1 => b e1
  | o => some o
def sBreak : MS := fun e => some (.bk e)
def sCont : MS := fun e => some (.ct e)
def sNever : MS := fun _ => none
def sIf (c : MT) (a b : MS) : MS := fun e => (c e).bind fun p => if p.1 = true then a p.2 else b p.2
def sRet (m : ME) : MS := fun e => (m e).map fun p => .rt p.1 p.2
def sRetN : MS := fun e => some (.rt (.val true .none) e)
def sExpr (m : ME) : MS := fun e => (m e).map fun p => .nx p.2
theorem sNil_ok : SS K tNext sNil := ⟨fun c hK G H σ e R o h D q => by cases h; exact q σ G H (Same.refl _) R (KeepS.refl _ _)⟩
theorem sBreak_ok : SS K tBreak sBreak := ⟨fun c hK G H σ e R o h D q => by cases h; exact q σ G H (Same.refl _) R (KeepS.refl _ _)⟩
theorem sCont_ok : SS K tCont sCont := ⟨fun c hK G H σ e R o h D q => by cases h; exact q σ G H (Same.refl _) R (KeepS.refl _ _)⟩
theorem sNever_ok {ts : TS} : SS K ts sNever := ⟨fun c hK G H σ e R o h D q => by cases h⟩
theorem sSeq_ok {t u : TS} {a b : MS} (A : SS K t a) (B : SS K u b) : SS K (tSeq t u) (sSeq a b) := by
  refine ⟨fun c hK G H σ e R o h D q => ?_⟩
  obtain ⟨o1, h1, h2⟩ := Option.bind_eq_some_iff.mp h
  refine A.run c hK G H σ e R o1 h1 _ ?_
  cases o1 with
  | nx e1 => exact fun σ' G' H' s' R' k' => B.run c hK G' H' σ' e1 R' o h2 D (q.mid s' k')
  | bk e1 => cases h2; exact q
  | ct e1 => cases h2; exact q
  | rt r e1 => cases h2; exact q
theorem sIf_ok {tc : TT} {t u : TS} {c0 : MT} {a b : MS} (C : ST K tc c0) (A : SS K t a) (B : SS K u b) : SS K (tIfS tc t u) (sIf c0 a b) := by
  refine ⟨fun c hK G H σ e R o h D q => ?_⟩
  obtain ⟨⟨b1, e1⟩, h1, h2⟩ := Option.bind_eq_some_iff.mp h
  refine C.run c hK G H σ e R b1 e1 h1 _ fun G1 H1 s1 R1 => ?_
  have q' := q.mid s1 ((C.keep _ _ _ h1).s σ)
  cases b1 with
  | true => rw [if_pos rfl]; exact A.run c hK G1 H1 σ e1 R1 o h2 D q'
  | false => rw [if_neg (by decide)]; exact B.run c hK G1 H1 σ e1 R1 o h2 D q'
theorem sRet_ok {te : TE} {m : ME} (A : SE K te m) : SS K (tRet te) (sRet m) := by
  refine ⟨fun c hK G H σ e R o h D q => ?_⟩
  obtain ⟨⟨r, e1⟩, h1, h2⟩ := Option.map_eq_some_iff.mp h
  subst h2
  exact A.run c hK G H σ e R r e1 h1 _ fun v G1 H1 s1 R1 k1 => q v σ G1 H1 s1 R1 k1 ((A.keep _ _ _ h1).s σ)
theorem sRetN_ok : SS K tRetN sRetN := ⟨fun c hK G H σ e R o h D q => by cases h; exact q .non σ G H (Same.refl _) R .non (KeepS.refl _ _)⟩
theorem sExpr_ok {te : TE} {m : ME} (A : SE K te m) : SS K (tDrop te) (sExpr m) := by
  refine ⟨fun c hK G H σ e R o h D q => ?_⟩
  obtain ⟨⟨r, e1⟩, h1, h2⟩ := Option.map_eq_some_iff.mp h
  subst h2
  exact A.run c hK G H σ e R r e1 h1 _ fun v G1 H1 s1 R1 k1 => q σ G1 H1 s1 R1 ((A.keep _ _ _ h1).s σ)

/-! ### stores -/
def sAsg (i : Nat) (m : ME) : MS := fun e => (m e).bind fun p => match p.1 with
  | .new f xs => if free p.2 i = true then some (.nx (p.2.set i (.o false false f xs))) else none
  | .ob f cl fs => if free p.2 i = true then some (.nx (p.2.set i (.ob f cl fs))) else none
  | r => (esc (r, p.2)).bind fun q => if free q.2 i = true then some (.nx (q.2.set i (.v q.1.1 q.1.2))) else none
theorem keep_set {e : EnvD} {i : Nat} {t : Sl} (h : free e i = true) (σ : St) (s : Option V) : KeepS σ e (σ.set i s) (e.set i t) := fun j io f xs z => by
  have hj : i ≠ j := fun y => by subst y; exact free_lk h _ _ _ z
  rw [List.getElem?_set_ne hj, List.getElem?_set_ne hj]; exact ⟨z, rfl⟩
theorem sAsg_ok {te : TE} {m : ME} {i : Nat} (A : SE K te m) : SS K (tAsg te (gName i)) (sAsg i m) := by
  refine ⟨fun c hK G H σ e R o h D q => ?_⟩
  obtain ⟨⟨r, e1⟩, h1, h2⟩ := Option.bind_eq_some_iff.mp h
  refine A.run c hK G H σ e R r e1 h1 _ fun v G1 H1 s1 R1 k1 => ?_
  have kk := (A.keep _ _ _ h1).s σ
  have other : (esc (r, e1)).bind (fun q => if free q.2 i = true then some (Out.nx (q.2.set i (.v q.1.1 q.1.2))) else none) = some o → gName i v σ H1 D.nx := fun h2 => by
    obtain ⟨⟨⟨f, x⟩, e2⟩, h3, h2⟩ := Option.bind_eq_some_iff.mp h2
    simp only at h2
    split at h2
    · rename_i hf
      cases h2
      obtain ⟨G2, s2, R2, k2⟩ := esc_ok R1 k1 h3
      obtain ⟨R3, t3⟩ := put_val R2 hf k2
      exact q _ G2 H1 (s1.trans s2) R3 ((kk.trans ((esc_keep h3).s σ)).trans t3.ks)
    · cases h2
  cases r with
  | new f xs =>
    simp only at h2
    split at h2
    · rename_i hf
      cases h2
      obtain ⟨p, ys, rfl, gp, hp, ra, h0, nt, no⟩ := k1
      refine q _ G1 H1 s1 (R1.put (free_lt hf) (free_io hf) ⟨p, ys, rfl, gp, hp, ra, .inl ⟨rfl, h0⟩⟩ fun io lk f2 xs2 z => ⟨fun j hj oj => no j oj, fun p' e' => by cases e'; exact nt⟩) (kk.trans (keep_set hf σ _))
    · cases h2
  | val f x => exact other h2
  | own j => exact other h2
  | ext x => exact other h2
  | ob f cl fs =>
    simp only at h2
    split at h2
    · rename_i hf
      cases h2
      exact q _ G1 H1 s1 (R1.put (free_lt hf) (free_io hf) ⟨v, rfl, k1⟩ fun _ _ _ _ z => by cases z) (kk.trans (keep_set hf σ _))
    · cases h2
def sAsgT (tg : Tg) (m : ME) : MS := fun e => (mEsc m e).bind fun p => (bindT tg p.1.1 p.1.2 p.2).map Out.nx
theorem sAsgT_ok {te : TE} {g : TG} {sl : List Nat} {m : ME} {tg : Tg} (A : SE K te m) (B : SG g sl (bindT tg)) : SS K (tAsg te g) (sAsgT tg m) := by
  refine ⟨fun c hK G H σ e R o h D q => ?_⟩
  obtain ⟨⟨⟨f, x⟩, e1⟩, h1, h2⟩ := Option.bind_eq_some_iff.mp h
  obtain ⟨e2, h3, h4⟩ := Option.map_eq_some_iff.mp h2
  subst h4
  refine (mEsc_ok A).run c hK G H σ e R f x e1 h1 _ fun v G1 H1 s1 R1 k1 => ?_
  refine B.run c G1 H1 σ e1 R1 f v x e2 k1 h3 _ fun σ2 R2 t2 => ?_
  exact q σ2 G1 H1 s1 R2 ((((mEsc_ok A).keep _ _ _ h1).s σ).trans t2.ks)
/-- x += e: ints, texts -/
def sAug (i : Nat) (m : ME) : MS := fun e => match e[i]? with
  | some (.v _ x) => (m e).bind fun p => (getD p.1 p.2).bind fun y => (dAddS x y).bind fun z => if free p.2 i = true then some (.nx (p.2.set i (.v true z))) else none
  | _ => none
def ipA : TIp := fun x y H Q => (∃ i j, x = .int i ∧ y = .int j ∧ Q (.int (i + j)) H) ∨ ∃ i j, x = .str i ∧ y = .str j ∧ i.length + j.length ≤ sizeLine ∧ Q (.str (i ++ j)) H
theorem ip_addA {X : Cx} : PIp X .Add ipA := by
  intro pins s σ H x y v u Q I r1 r2 h
  rcases h with ⟨i, j, rfl, rfl, q⟩ | ⟨i, j, rfl, rfl, hz, q⟩
  · obtain ⟨t, rfl⟩ := r1
    obtain ⟨t', rfl⟩ := r2
    exact iadd_int ⟨.int _, H, I.tok _, ⟨_, rfl⟩, q⟩
  · obtain ⟨t, rfl⟩ := r1
    obtain ⟨t', rfl⟩ := r2
    exact iadd_str (fun t' tk => ⟨.str (i ++ j), H, I.tok _, ⟨_, rfl⟩, q⟩) hz
theorem sAug_ok {te : TE} {m : ME} {i : Nat} (A : SE K te m) : SS K (tAug i te ipA) (sAug i m) := by
  refine ⟨fun c hK G H σ e R o h D q => ?_⟩
  unfold sAug at h
  split at h
  · rename_i f x he
    obtain ⟨⟨r, e1⟩, h1, h⟩ := Option.bind_eq_some_iff.mp h
    obtain ⟨y, hy, h⟩ := Option.bind_eq_some_iff.mp h
    obtain ⟨z, hz, h⟩ := Option.bind_eq_some_iff.mp h
    simp only at h
    split at h
    · rename_i hf
      cases h
      obtain ⟨s0, hs0, w, rfl, kw⟩ := R.at he
      refine ⟨w, hs0, A.run c hK G H σ e R r e1 h1 _ fun v G1 H1 s1 R1 k1 => ?_⟩
      have dy := getD_ok R1 k1 hy
      have dx := kw.dp
      have fin : ∀ u, (Rv c G1 true u z) → D.nx (σ.set i (some u)) H1 := fun u hu => by
        obtain ⟨R3, t3⟩ := put_val R1 hf hu
        exact q _ G1 H1 s1 R3 (((A.keep _ _ _ h1).s σ).trans t3.ks)
      unfold dAddS at hz
      split at hz
      · cases hz
        exact .inl ⟨_, _, dp_int dx, dp_int dy, fin _ (.int _)⟩
      · split at hz
        · rename_i hl
          cases hz
          exact .inr ⟨_, _, dp_str dx, dp_str dy, hl, fin _ (.str _)⟩
        · cases hz
      · cases hz
    · cases h
  · cases h

/-! ### lists written -/
/-- x[k] = e, x the slot i -/
def isO (e : EnvD) (i : Nat) : Bool := match e[i]? with
  | some (.o _ _ _ _) => true
  | _ => false
theorem isO_ow {e : EnvD} {i : Nat} (h : isO e i = true) : ∃ io lk f xs, e[i]? = some (.o io lk f xs) := by
  unfold isO at h
  split at h
  · exact ⟨_, _, _, _, by assumption⟩
  · cases h
def sSet (i : Nat) (ix m : ME) : MS := fun e => (mEsc m e).bind fun p => if isO p.2 i = true then (ix p.2).bind fun q => match getD q.1 q.2, q.2[i]? with
  | some (.int k), some (.o io false f xs) => (ixN xs.length k).map fun j => .nx (q.2.set i (.o io false (f && (p.1.1 || sc p.1.2)) (xs.set j p.1.2)))
  | _, _ => none
  else none
theorem keep_own {e : EnvD} {i : Nat} {io f : Bool} {xs : List D} (h : e[i]? = some (.o io false f xs)) (σ : St) (t : Sl) : KeepS σ e σ (e.set i t) := fun j io' f' xs' z => by
  have hj : i ≠ j := fun y => by subst y; rw [h] at z; cases z
  rw [List.getElem?_set_ne hj]; exact ⟨z, rfl⟩
theorem rv_and {c : Cfg} {G : Hp} {f g : Bool} {v : V} {x : D} (k : Rv c G g v x) : Rv c G (f && (g || sc x)) v x := k.weak _ fun z => by
  rw [Bool.and_eq_true, Bool.or_eq_true] at z; exact z.2
theorem rvAll_and {c : Cfg} {G : Hp} {f b : Bool} {vs : List V} {xs : List D} (k : RvAll c G f vs xs) : RvAll c G (f && b) vs xs := k.weakAll _ fun z => by
  rw [Bool.and_eq_true] at z; exact .inl z.1
theorem sSet_ok {te tk : TE} {m ix : ME} {i : Nat} (A : SE K te m) (B : SE K tk ix) : SS K (tAsg te (gSub (tVar i) tk rSetL)) (sSet i ix m) := by
  refine ⟨fun c hK G H σ e R o h D q => ?_⟩
  obtain ⟨⟨⟨f1, y⟩, e1⟩, h1, h⟩ := Option.bind_eq_some_iff.mp h
  simp only at h
  split at h
  · rename_i hO
    obtain ⟨⟨r, e2⟩, h2, h⟩ := Option.bind_eq_some_iff.mp h
    simp only at h
    split at h
    · rename_i k io f xs hk he
      obtain ⟨j, hj, h⟩ := Option.map_eq_some_iff.mp h
      cases h
      refine (mEsc_ok A).run c hK G H σ e R f1 y e1 h1 _ fun v G1 H1 s1 R1 k1 => ?_
      obtain ⟨io1, lk1, f0, xs0, he1⟩ := isO_ow hO
      obtain ⟨p, ys1, hs, _⟩ := R1.ow he1
      refine ⟨.ref p, hs, B.run c hK G1 H1 σ e1 R1 r e2 h2 _ fun w G2 H2 s2 R2 k2 => ?_⟩
      obtain ⟨p', ys, hs2, gp, hp, ra, _⟩ := R2.ow he
      rw [hs] at hs2; cases hs2
      rw [dp_int (getD_ok R2 k2 hk)]
      refine ⟨p, ys, k, j, rfl, rfl, hp, by rw [ra.length]; exact hj, ?_⟩
      have R3 := R2.write (lk' := false) (ys := ys.set j v) (ys' := xs.set j y) (f' := f && (f1 || sc y)) he hs (RvAll.set (rv_and (Rv.mono s2 k1)) (rvAll_and ra))
      exact q σ G2 _ (s1.trans s2) R3 (((((mEsc_ok A).keep _ _ _ h1).s σ).trans ((B.keep _ _ _ h2).s σ)).trans (keep_own he σ _))
    · cases h
  · cases h
/-- x.append(e), x the slot i -/
def sApp (i : Nat) (m : ME) : MS := fun e => if isO e i = true then (mEsc m e).bind fun p => match p.2[i]? with
  | some (.o io false f xs) => if xs.length < sizeLine then some (.nx (p.2.set i (.o io false (f && (p.1.1 || sc p.1.2)) (xs ++ [p.1.2])))) else none
  | _ => none
  else none
theorem sApp_ok {te : TE} {m : ME} {i : Nat} (A : SE K te m) : SS K (tDrop (tBM K "list" rAppend (tVar i) (tCons te tNil))) (sApp i m) := by
  refine ⟨fun c hK G H σ e R o h D q => ?_⟩
  unfold sApp at h
  split at h
  · rename_i hO
    obtain ⟨⟨⟨f1, y⟩, e1⟩, h1, h⟩ := Option.bind_eq_some_iff.mp h
    simp only at h
    split at h
    · rename_i io f xs he
      split at h
      · rename_i hz
        cases h
        obtain ⟨io1, lk1, f0, xs0, he1⟩ := isO_ow hO
        obtain ⟨p, ys1, hs, _, hp1, _⟩ := R.ow he1
        refine ⟨.ref p, hs, .inl ⟨rfl, _, SqL.of hp1⟩, ?_⟩
        refine (mEsc_ok A).run c hK G H σ e R f1 y e1 h1 _ fun v G1 H1 s1 R1 k1 => ?_
        obtain ⟨p', ys, hs2, gp, hp, ra, _⟩ := R1.ow he
        rw [hs] at hs2; cases hs2
        refine ⟨p, ys, v, rfl, rfl, hp, by rw [ra.length]; exact hz, ?_⟩
        have R3 := R1.write (lk' := false) (ys := ys ++ [v]) (ys' := xs ++ [y]) (f' := f && (f1 || sc y)) he hs (RvAll.append (rvAll_and ra) (.cons (rv_and k1) .nil))
        exact q σ G1 _ s1 R3 ((((mEsc_ok A).keep _ _ _ h1).s σ).trans (keep_own he σ _))
      · cases h
    · cases h
  · cases h
/-- x.extend(e), x the slot i -/
def sExt (i : Nat) (m : ME) : MS := fun e => if isO e i = true then (settle m e).bind fun p => match lview p.1 p.2, p.2[i]? with
  | some (f', zs), some (.o io false f xs) => if xs.length + zs.length ≤ sizeLine then some (.nx (p.2.set i (.o io false (f && (f' || zs.all sc)) (xs ++ zs)))) else none
  | _, _ => none
  else none
theorem sExt_ok {te : TE} {m : ME} {i : Nat} (A : SE K te m) : SS K (tDrop (tBM K "list" rExtend (tVar i) (tCons te tNil))) (sExt i m) := by
  refine ⟨fun c hK G H σ e R o h D q => ?_⟩
  unfold sExt at h
  split at h
  · rename_i hO
    obtain ⟨⟨r, e1⟩, h1, h⟩ := Option.bind_eq_some_iff.mp h
    simp only at h
    split at h
    · rename_i f' zs io f xs hl he
      split at h
      · rename_i hz
        cases h
        obtain ⟨io1, lk1, f0, xs0, he1⟩ := isO_ow hO
        obtain ⟨p, ys1, hs, _, hp1, _⟩ := R.ow he1
        refine ⟨.ref p, hs, .inl ⟨rfl, _, SqL.of hp1⟩, ?_⟩
        refine (settle_ok A).run c hK G H σ e R r e1 h1 _ fun v G1 H1 s1 R1 k1 => ?_
        obtain ⟨p', ys, hs2, gp, hp, ra, _⟩ := R1.ow he
        rw [hs] at hs2; cases hs2
        obtain ⟨b, us, rfl, rb, hb⟩ := lview_ok R1 k1 hl
        refine ⟨p, b, ys, us, rfl, rfl, hp, hb, by rw [ra.length, rb.length]; exact hz, ?_⟩
        have R3 := R1.write (lk' := false) (ys := ys ++ us) (ys' := xs ++ zs) (f' := f && (f' || zs.all sc)) he hs (RvAll.append (rvAll_and ra) (rb.weakAll _ fun z => by
          rw [Bool.and_eq_true, Bool.or_eq_true] at z; exact z.2))
        exact q σ G1 _ s1 R3 ((((settle_ok A).keep _ _ _ h1).s σ).trans (keep_own he σ _))
      · cases h
    · cases h
  · cases h

/-! ### for -/
def forLoop (tg : Tg) (body : MS) (f : Bool) : List D → EnvD → Option Out
  | [], e => some (.nx e)
  | x :: xs, e => (bindT tg f x e).bind fun e1 => (body e1).bind fun o => match o with
    | .nx e2 => forLoop tg body f xs e2
    | .ct e2 => forLoop tg body f xs e2
    | .bk e2 => some (.nx e2)
    | .rt r e2 => some (.rt r e2)
def unlockO (lk : List (Nat × Bool)) : Out → Out
  | .nx e => .nx (unlock lk e)
  | .bk e => .bk (unlock lk e)
  | .ct e => .ct (unlock lk e)
  | .rt r e => .rt r (unlock lk e)
def sFor (src : MI) (tg : Tg) (body : MS) : MS := fun e => (src e).bind fun p => (forLoop tg body p.1.f p.1.ds p.2).map (unlockO p.1.lk)
theorem unlock_keep {lk : List (Nat × Bool)} {σ0 σ : St} {e0 e1 e : EnvD} (h0 : ∀ (j : Nat) io f xs, e0[j]? = some (.o io true f xs) → (j, true) ∉ lk) (k : KeepS σ0 e0 σ e) : KeepS σ0 e0 σ (unlock lk e) := fun j io f xs z => by
  obtain ⟨h1, h2⟩ := k j io f xs z
  exact ⟨by rw [unlock_out (h0 j io f xs z)]; exact h1, h2⟩
theorem sFor_ok {wi : TI} {g : TG} {sl : List Nat} {tb : TS} {src : MI} {tg : Tg} {body : MS} (hI : SI K wi src) (hG : SG g sl (bindT tg)) (hB : SS K tb body) : SS K (tFor wi g tb) (sFor src tg body) := by
  refine ⟨fun c hK G H σ e R o h D q => ?_⟩
  obtain ⟨⟨s, e1⟩, h1, h⟩ := Option.bind_eq_some_iff.mp h
  obtain ⟨o1, h2, h3⟩ := Option.map_eq_some_iff.mp h
  subst hK
  refine hI.run c rfl G H σ e R s e1 h1 _ fun J G1 H1 s1 R1 SV _ => ?_
  have k1 : KeepS σ e σ e1 := (hI.keep _ _ _ h1).s σ
  have un := fun (σ' : St) (e' : EnvD) (k : KeepS σ e1 σ' e') => unlock_keep (e1 := e1) (hI.unl _ _ _ h1) (k1.trans k)
  -- what is wanted at the loop's end
  have fin : EndOk c G1 σ e1 o1 D := by
    subst h3
    cases o1 with
    | nx e' => exact fun σ' G' H' s' R' k' => q σ' G' H' (s1.trans s') R'.unlocked (un _ _ k')
    | bk e' => exact fun σ' G' H' s' R' k' => q σ' G' H' (s1.trans s') R'.unlocked (un _ _ k')
    | ct e' => exact fun σ' G' H' s' R' k' => q σ' G' H' (s1.trans s') R'.unlocked (un _ _ k')
    | rt r e' =>
      intro v σ' G' H' s' R' kv k'
      refine q v σ' G' H' (s1.trans s') R'.unlocked ?_ (un _ _ k')
      cases r with
      | val f x => exact kv
      | own i => exact kv
      | ext x => exact kv
      | ob f cl fs => exact kv
      | new f xs =>
        obtain ⟨p, ys, a1, a2, a3, a4, a5, a6, a7⟩ := kv
        exact ⟨p, ys, a1, a2, a3, a4, a5, a6, fun i oi => a7 i (isOw_unlock oi)⟩
  refine ⟨fun i m σ' H' => ∃ G' e', Same G1 G' ∧ Rel c G' H' σ' e' ∧ KeepS σ e1 σ' e' ∧ forLoop tg body s.f (s.ds.drop i) e' = some o1 ∧ m = s.ds.length - i ∧ i ≤ s.ds.length, ⟨s.ds.length, G1, e1, Same.refl _, R1, KeepS.refl _ _, h2, rfl, Nat.zero_le _⟩, ?_⟩
  rintro i m σi Hi ⟨Gi, ei, si, Ri, ki, hl, rfl, hi⟩
  have LK : LkOk e1 σ s.lk ei σi := fun p hp => by
    obtain ⟨io, f, xs, z⟩ := SV.lkd p hp
    obtain ⟨a, b⟩ := ki _ _ _ _ z
    exact ⟨by rw [a, z], b⟩
  by_cases hlt : i < s.ds.length
  · have hx : s.ds[i]? = some s.ds[i] := List.getElem?_eq_getElem hlt
    obtain ⟨go, yl⟩ := SV.item c.tm i _ Gi Hi σi ei hx si Ri LK
    refine .inr ⟨go, fun σ' H' => ∃ G' e', Same G1 G' ∧ Rel c G' H' σ' e' ∧ KeepS σ e1 σ' e' ∧ forLoop tg body s.f (s.ds.drop (i + 1)) e' = some o1, fun σ' H' ⟨G', e', a1, a2, a3, a4⟩ => ⟨s.ds.length - (i + 1), by omega, G', e', a1, a2, a3, a4, rfl, hlt⟩, fun v H' y => ?_⟩
    obtain ⟨G2, s2, R2, k2⟩ := yl v H' y
    rw [List.drop_eq_getElem_cons hlt] at hl
    unfold forLoop at hl
    obtain ⟨eb, b1, hl⟩ := Option.bind_eq_some_iff.mp hl
    obtain ⟨ob, b2, hl⟩ := Option.bind_eq_some_iff.mp hl
    refine hG.run c G2 H' σi ei R2 s.f v _ eb k2 b1 _ fun σ2 R3 t3 => ?_
    refine hB.run c rfl G2 H' σ2 eb R3 ob b2 _ ?_
    have kb := ki.trans t3.ks
    cases ob with
    | nx e2 => exact fun σ' G' H' s' R' k' => ⟨G', e2, (si.trans s2).trans s', R', kb.trans k', hl⟩
    | ct e2 => exact fun σ' G' H' s' R' k' => ⟨G', e2, (si.trans s2).trans s', R', kb.trans k', hl⟩
    | bk e2 =>
      cases hl
      exact fun σ' G' H' s' R' k' => fin σ' G' H' ((si.trans s2).trans s') R' (kb.trans k')
    | rt r e2 =>
      cases hl
      exact fun v σ' G' H' s' R' kv k' => fin v σ' G' H' ((si.trans s2).trans s') R' kv (kb.trans k')
  · have hie : i = s.ds.length := by omega
    subst hie
    rw [List.drop_length] at hl
    unfold forLoop at hl
    cases hl
    exact .inl ⟨SV.stop c.tm _ Gi Hi σi ei (Nat.le_refl _) si Ri LK, fin σi Gi Hi si Ri ki⟩

/-! ### while -/
def wIter (c : MT) (b : MS) : Nat → EnvD → Option Out
  | 0, _ => none
  | n + 1, e => (c e).bind fun p => if p.1 = true then (b p.2).bind fun o => (match o with
    | .nx e2 => wIter c b n e2
    | .ct e2 => wIter c b n e2
    | .bk e2 => some (.nx e2)
    | .rt r e2 => some (.rt r e2)) else some (.nx p.2)
theorem wIter_mono {c : MT} {b : MS} : ∀ {n : Nat} {e : EnvD} {o : Out}, wIter c b n e = some o → wIter c b (n + 1) e = some o
  | 0, e, o, h => by unfold wIter at h; cases h
  | n + 1, e, o, h => by
    unfold wIter at h ⊢
    obtain ⟨p, h1, h2⟩ := Option.bind_eq_some_iff.mp h
    rw [h1, Option.bind_some]
    split at h2
    · rename_i hp
      rw [if_pos hp]
      obtain ⟨o1, h3, h4⟩ := Option.bind_eq_some_iff.mp h2
      rw [h3, Option.bind_some]
      cases o1 with
      | nx e2 => exact wIter_mono h4
      | ct e2 => exact wIter_mono h4
      | bk e2 => exact h4
      | rt r e2 => exact h4
    · rename_i hp
      rw [if_neg hp]
      exact h2
theorem wIter_le {c : MT} {b : MS} {n m : Nat} {e : EnvD} {o : Out} (hn : n ≤ m) (h : wIter c b n e = some o) : wIter c b m e = some o := by
  induction hn with
  | refl => exact h
  | step _ ih => exact wIter_mono ih
open Classical in
noncomputable def sWhile (c : MT) (b : MS) : MS := fun e => if h : ∃ o n, wIter c b n e = some o then some (Classical.choose h) else none
theorem sWhile_eq {c : MT} {b : MS} {e : EnvD} {o : Out} (n : Nat) (h : wIter c b n e = some o) : sWhile c b e = some o := by
  unfold sWhile
  have hx : ∃ o n, wIter c b n e = some o := ⟨o, n, h⟩
  rw [dif_pos hx]
  obtain ⟨m, hm⟩ := Classical.choose_spec hx
  have h1 := wIter_le (Nat.le_max_left n m) h
  have h2 := wIter_le (Nat.le_max_right n m) hm
  rw [h1] at h2
  exact h2.symm
theorem sWhile_of {c : MT} {b : MS} {e : EnvD} {o : Out} (h : sWhile c b e = some o) : ∃ n, wIter c b n e = some o := by
  unfold sWhile at h
  split at h
  · rename_i hx
    cases h
    exact Classical.choose_spec hx
  · cases h
theorem sWhile_ok {tc : TT} {tb : TS} {c0 : MT} {body : MS} (hC : ST K tc c0) (hB : SS K tb body) : SS K (tWhile tc tb) (sWhile c0 body) := by
  refine ⟨fun c hK G H σ e R o h D q => ?_⟩
  obtain ⟨n, hn⟩ := sWhile_of h
  refine ⟨fun m σ' H' => ∃ G' e', Same G G' ∧ Rel c G' H' σ' e' ∧ KeepS σ e σ' e' ∧ wIter c0 body m e' = some o, ⟨n, G, e, Same.refl _, R, KeepS.refl _ _, hn⟩, ?_⟩
  rintro m σi Hi ⟨Gi, ei, si, Ri, ki, hl⟩
  cases m with
  | zero => unfold wIter at hl; cases hl
  | succ m =>
    unfold wIter at hl
    obtain ⟨⟨b, e1⟩, h1, h2⟩ := Option.bind_eq_some_iff.mp hl
    refine hC.run c hK Gi Hi σi ei Ri b e1 h1 _ fun G1 H1 s1 R1 => ?_
    have k1 := ki.trans ((hC.keep _ _ _ h1).s σi)
    cases b with
    | true =>
      rw [if_pos rfl] at h2 ⊢
      obtain ⟨ob, b2, h2⟩ := Option.bind_eq_some_iff.mp h2
      refine ⟨fun σ' H' => ∃ G' e', Same G G' ∧ Rel c G' H' σ' e' ∧ KeepS σ e σ' e' ∧ wIter c0 body m e' = some o, fun σ' H' hN => ⟨m, Nat.lt_succ_self _, hN⟩, ?_⟩
      refine hB.run c hK G1 H1 σi e1 R1 ob b2 _ ?_
      cases ob with
      | nx e2 => exact fun σ' G' H' s' R' k' => ⟨G', e2, (si.trans s1).trans s', R', k1.trans k', h2⟩
      | ct e2 => exact fun σ' G' H' s' R' k' => ⟨G', e2, (si.trans s1).trans s', R', k1.trans k', h2⟩
      | bk e2 =>
        cases h2
        exact fun σ' G' H' s' R' k' => q σ' G' H' ((si.trans s1).trans s') R' (k1.trans k')
      | rt r e2 =>
        cases h2
        exact fun v σ' G' H' s' R' kv k' => q v σ' G' H' ((si.trans s1).trans s') R' kv (k1.trans k')
    | false =>
      rw [if_neg Bool.false_ne_true]
      have h3 : some (Out.nx e1) = some o := h2
      cases h3
      exact q σi G1 H1 (si.trans s1) R1 k1
end
end DL
end
section
set_option maxHeartbeats 4000000
/-! DL9: what a def promises; its call; its body. -/
namespace DL
open PySem PySem.Spec PyProof.Rows L2

/-- a def on data: the arguments as slots; the result and the arguments behind -/
abbrev FD := List Sl → Option (Sl × List Sl)

/-! ### argument rows -/
abbrev MRs := EnvD → Option (List RV × EnvD)
def rNil : MRs := fun e => some ([], e)
def rCons (a : ME) (r : MRs) : MRs := fun e => (settle a e).bind fun p => (r p.2).map fun q => (p.1 :: q.1, q.2)
def RvsOk (c : Cfg) (G H : Hp) (σ : St) (e : EnvD) : List V → List RV → Prop
  | [], [] => True
  | v :: vs, r :: rs => (RvOk c G H σ e v r ∧ r.fix = true) ∧ RvsOk c G H σ e vs rs
  | _, _ => False
theorem RvsOk.length {c : Cfg} {G H : Hp} {σ : St} {e : EnvD} : ∀ {vs : List V} {rs : List RV}, RvsOk c G H σ e vs rs → vs.length = rs.length
  | [], [], _ => rfl
  | _ :: _, _ :: _, h => by simp [RvsOk.length h.2]
  | [], _ :: _, h => h.elim
  | _ :: _, [], h => h.elim
structure SR (K : PySem.W.Frag) (t : TA) (m : MRs) : Prop where
  run : ∀ c : Cfg, c.K = K → ∀ G H σ e, Rel c G H σ e → ∀ rs e', m e = some (rs, e') → ∀ Q : List V → Hp → Prop, (∀ vs G' H', Same G G' → Rel c G' H' σ e' → RvsOk c G' H' σ e' vs rs → Q vs H') → t σ H Q
  keep : ∀ e r e', m e = some (r, e') → Keep e e'
section
variable {K : PySem.W.Frag}
theorem rNil_ok : SR K tNil rNil := by
  refine ⟨fun c hK G H σ e R ps e' h Q q => ?_, fun e r e' h => ?_⟩
  · cases h; exact q [] G H (Same.refl _) R trivial
  · cases h; exact Keep.refl _
theorem rCons_ok {te : TE} {t : TA} {a : ME} {r : MRs} (A : SE K te a) (B : SR K t r) : SR K (tCons te t) (rCons a r) := by
  refine ⟨fun c hK G H σ e R ps e' h Q q => ?_, fun e r' e' h => ?_⟩
  · obtain ⟨⟨r1, e1⟩, h1, h⟩ := Option.bind_eq_some_iff.mp h
    obtain ⟨⟨qs, e2⟩, h2, h⟩ := Option.map_eq_some_iff.mp h
    cases h
    refine (settle_ok A).run c hK G H σ e R _ _ h1 _ fun v G1 H1 s1 R1 k1 => ?_
    refine B.run c hK G1 H1 σ e1 R1 _ _ h2 _ fun vs G2 H2 s2 R2 k2 => ?_
    exact q (v :: vs) G2 H2 (s1.trans s2) R2 ⟨⟨k1.last (settle_fix h1) s2, settle_fix h1⟩, k2⟩
  · obtain ⟨⟨r1, e1⟩, h1, h⟩ := Option.bind_eq_some_iff.mp h
    obtain ⟨⟨qs, e2⟩, h2, h⟩ := Option.map_eq_some_iff.mp h
    cases h
    exact ((settle_ok A).keep _ _ _ h1).trans (B.keep _ _ _ h2)
end

/-! ### the promise -/
def ioOf : Nat → List V → List Sl → List (Nat × Addr)
  | k, .ref p :: vs, .o true _ _ _ :: as => (k, p) :: ioOf (k + 1) vs as
  | k, _ :: vs, _ :: as => ioOf (k + 1) vs as
  | _, _, _ => []
abbrev cfgOf (K : PySem.W.Frag) (G H : Hp) (vs : List V) (as : List Sl) : Cfg := { K := K, H0 := H, G0 := G, io := ioOf 0 vs as }
def ArgOk (K : PySem.W.Frag) (G H : Hp) (v : V) : Sl → Prop
  | .v false x => Rs G v x
  | .o true false false xs => ∃ p ys, v = .ref p ∧ G p = none ∧ H p = some (.lst ys) ∧ RsAll G ys xs
  | .s ns => ∃ a, v = .ref a ∧ SqL K G a (ns.map V.int)
  | .ob false cl fs => ∃ H0, RvOb { K := K, H0 := H0, G0 := G, io := [] } G false v cl fs
  | _ => False
structure ArgsOk (K : PySem.W.Frag) (G H : Hp) (vs : List V) (as : List Sl) : Prop where
  gh : Same G H
  len : vs.length = as.length
  at_ : ∀ (k : Nat) v t, vs[k]? = some v → as[k]? = some t → ArgOk K G H v t
  dj : ∀ (k l : Nat) p, isOw as k → isOw as l → vs[k]? = some (.ref p) → vs[l]? = some (.ref p) → k = l
def ResOk (c : Cfg) (G' H' : Hp) (v : V) : Sl → Prop
  | .v f x => Rv c G' f v x
  | .o _ _ f xs => ∃ p ys, v = .ref p ∧ G' p = none ∧ H' p = some (.lst ys) ∧ RvAll c G' f ys xs ∧ c.H0 p = none
  | .ob f cl fs => RvOb c G' f v cl fs
  | _ => False
structure Post (c : Cfg) (v : V) (r : Sl) (as' : List Sl) (G' H' : Hp) : Prop where
  g : Same c.G0 G'
  gh : Same G' H'
  gn : ∀ p o, G' p = some o → c.H0 p ≠ none → c.G0 p = some o
  hf : ∀ p o, c.H0 p = some o → p ∉ c.io.map (·.2) → H' p = some o
  io : ∀ i p, (i, p) ∈ c.io → ∃ lk f xs ys, as'[i]? = some (.o true lk f xs) ∧ G' p = none ∧ H' p = some (.lst ys) ∧ RvAll c G' f ys xs
  res : ResOk c G' H' v r
def spD (K : PySem.W.Frag) (F : FD) : Sp := fun vs H Q _ => ∃ G as r as', ArgsOk K G H vs as ∧ F as = some (r, as') ∧ ∀ v G' H', Post (cfgOf K G H vs as) v r as' G' H' → Q v H'
theorem ioOf_mem : ∀ {vs : List V} {as : List Sl} {k i : Nat} {p : Addr}, (i, p) ∈ ioOf k vs as → k ≤ i ∧ vs[i - k]? = some (.ref p) ∧ ∃ lk f xs, as[i - k]? = some (.o true lk f xs)
  | [], _, k, i, p, h => by simp [ioOf] at h
  | v :: vs, [], k, i, p, h => by cases v <;> simp [ioOf] at h
  | v :: vs, a :: as, k, i, p, h => by
    have tail : (i, p) ∈ ioOf (k + 1) vs as → k ≤ i ∧ (v :: vs)[i - k]? = some (.ref p) ∧ ∃ lk f xs, (a :: as)[i - k]? = some (.o true lk f xs) := fun h => by
      obtain ⟨h1, h2, h3⟩ := ioOf_mem h
      have e : i - k = (i - (k + 1)) + 1 := by omega
      rw [e, List.getElem?_cons_succ, List.getElem?_cons_succ]
      exact ⟨by omega, h2, h3⟩
    unfold ioOf at h
    split at h
    · rename_i h1 h2
      cases h1; cases h2
      rcases List.mem_cons.mp h with h | h
      · cases h
        rw [Nat.sub_self]
        exact ⟨Nat.le_refl _, rfl, _, _, _, rfl⟩
      · exact tail h
    · rename_i h1 h2
      cases h1; cases h2
      exact tail h
    · cases h
theorem ioOf_of : ∀ {vs : List V} {as : List Sl} {k j : Nat} {p : Addr} {lk f : Bool} {xs : List D}, vs[j]? = some (.ref p) → as[j]? = some (.o true lk f xs) → (k + j, p) ∈ ioOf k vs as
  | [], _, _, _, _, _, _, _, h, _ => by simp at h
  | _ :: _, [], _, _, _, _, _, _, _, h => by simp at h
  | v :: vs, a :: as, k, 0, p, lk, f, xs, h, h' => by
    simp at h h'
    subst h h'
    unfold ioOf
    exact List.mem_cons_self ..
  | v :: vs, a :: as, k, j + 1, p, lk, f, xs, h, h' => by
    have ih := ioOf_of (k := k + 1) (j := j) (vs := vs) (as := as) (by simpa using h) (by simpa using h')
    rw [show k + (j + 1) = k + 1 + j by omega]
    unfold ioOf
    split
    · rename_i h1 h2; cases h1; cases h2; exact List.mem_cons_of_mem _ ih
    · rename_i h1 h2; cases h1; cases h2; exact ih
    · rename_i h1 h2; exact (h2 _ _ _ _ rfl rfl).elim

/-! ### the body -/
def fin (n : Nat) : Out → Option (Sl × List Sl)
  | .nx e => some (.v true .none, e.take n)
  | .rt (.val f x) e => some (.v f x, e.take n)
  | .rt (.new f xs) e => some (.o false false f xs, e.take n)
  | .rt (.ob f cl fs) e => some (.ob f cl fs, e.take n)
  | .rt (.own i) e => match e[i]? with
    | some (.o false false f xs) => some (.o false false f xs, (e.set i .u).take n)
    | _ => none
  | _ => none
def fnSem (np N : Nat) (body : MS) : FD := fun as => if as.length = np then (body (as ++ List.replicate (N - np) .u)).bind (fin np) else none
theorem start_get {N : List Str} {vs : List V} {i : Nat} {s : Option V} (h : (L2.start N vs)[i]? = some s) : (i < vs.length ∧ ∃ v, vs[i]? = some v ∧ s = some v) ∨ (vs.length ≤ i ∧ s = none) := by
  unfold L2.start at h
  by_cases hi : i < vs.length
  · rw [List.getElem?_append_left (by rw [List.length_map]; exact hi), List.getElem?_map] at h
    obtain ⟨v, h1, h2⟩ := Option.map_eq_some_iff.mp h
    exact .inl ⟨hi, v, h1, h2.symm⟩
  · rw [List.getElem?_append_right (by rw [List.length_map]; omega), List.getElem?_replicate] at h
    split at h
    · cases h; exact .inr ⟨by omega, rfl⟩
    · cases h
theorem env_get {as : List Sl} {n i : Nat} {t : Sl} (h : (as ++ List.replicate n Sl.u)[i]? = some t) : (i < as.length ∧ as[i]? = some t) ∨ (as.length ≤ i ∧ t = .u) := by
  by_cases hi : i < as.length
  · rw [List.getElem?_append_left hi] at h; exact .inl ⟨hi, h⟩
  · rw [List.getElem?_append_right (by omega), List.getElem?_replicate] at h
    split at h
    · cases h; exact .inr ⟨by omega, rfl⟩
    · cases h
theorem Rel.start {K : PySem.W.Frag} {G H : Hp} {vs : List V} {as : List Sl} {N : List Str} (A : ArgsOk K G H vs as) (hN : vs.length ≤ N.length) :
    Rel (cfgOf K G H vs as) G H (L2.start N vs) (as ++ List.replicate (N.length - as.length) .u) := by
  have own : ∀ i, isOw (as ++ List.replicate (N.length - as.length) .u) i → isOw as i := fun i ⟨a, b, d, k, z⟩ => by
    rcases env_get z with ⟨_, z⟩ | ⟨_, z⟩
    · exact ⟨_, _, _, _, z⟩
    · cases z
  refine ⟨Same.refl _, A.gh, fun p o h _ => h, fun p o h _ => h, fun i p m => ?_, ?_, fun i s t hs ht => ?_, fun i j p oi oj hi hj => ?_, fun p ys m => by cases m⟩
  · obtain ⟨_, h1, lk, f, xs, h2⟩ := ioOf_mem m
    rw [Nat.sub_zero] at h1 h2
    have hi : i < vs.length := (List.getElem?_eq_some_iff.mp h1).1
    refine ⟨?_, lk, f, xs, ?_⟩
    · unfold L2.start
      rw [List.getElem?_append_left (by rw [List.length_map]; exact hi), List.getElem?_map, h1]; rfl
    · rw [List.getElem?_append_left (by rw [← A.len]; exact hi)]; exact h2
  · unfold L2.start
    rw [List.length_append, List.length_append, List.length_map, List.length_replicate, List.length_replicate, A.len]
  · rcases start_get hs with ⟨hi, v, hv, rfl⟩ | ⟨hi, rfl⟩
    · rcases env_get ht with ⟨_, ht⟩ | ⟨hi', _⟩
      · have q := A.at_ i v t hv ht
        unfold ArgOk at q
        split at q
        · exact ⟨v, rfl, q⟩
        · obtain ⟨p, ys, rfl, h1, h2, h3⟩ := q
          refine ⟨p, ys, rfl, h1, h2, h3, .inr ⟨rfl, ?_⟩⟩
          have := ioOf_of (k := 0) hv ht
          rwa [Nat.zero_add] at this
        · obtain ⟨a, rfl, h1⟩ := q; exact ⟨a, rfl, h1⟩
        · obtain ⟨H0, q⟩ := q; exact ⟨v, rfl, q⟩
        · exact q.elim
      · rw [← A.len] at hi'; omega
    · rcases env_get ht with ⟨hi', _⟩ | ⟨_, rfl⟩
      · rw [← A.len] at hi'; omega
      · trivial
  · have oi' := own i oi
    have oj' := own j oj
    rcases start_get hi with ⟨_, v, hv, e1⟩ | ⟨_, e1⟩
    · rcases start_get hj with ⟨_, w, hw, e2⟩ | ⟨_, e2⟩
      · cases e1; cases e2; exact A.dj i j p oi' oj' hv hw
      · cases e2
    · cases e1
/-- the body's end gives the promise -/
theorem fin_ok {K : PySem.W.Frag} {G H : Hp} {vs : List V} {as : List Sl} {σ : St} {e : EnvD} {G' H' : Hp} {rv : RV} {v : V} {r : Sl} {as' : List Sl} (A : ArgsOk K G H vs as)
    (R : Rel (cfgOf K G H vs as) G' H' σ e) (k : RvOk (cfgOf K G H vs as) G' H' σ e v rv) (h : fin as.length (.rt rv e) = some (r, as')) : Post (cfgOf K G H vs as) v r as' G' H' := by
  have io : ∀ i p, (i, p) ∈ (cfgOf K G H vs as).io → i < as.length ∧ ∃ lk f xs ys, e[i]? = some (.o true lk f xs) ∧ G' p = none ∧ H' p = some (.lst ys) ∧ RvAll (cfgOf K G H vs as) G' f ys xs := fun i p m => by
    obtain ⟨a1, lk, f, xs, a2⟩ := R.io i p m
    obtain ⟨p', ys, b1, b2, b3, b4, _⟩ := R.ow a2
    rw [a1] at b1; cases b1
    obtain ⟨_, h1, lk', f', xs', h2⟩ := ioOf_mem m
    rw [Nat.sub_zero] at h2
    exact ⟨(List.getElem?_eq_some_iff.mp h2).1, lk, f, xs, ys, a2, b2, b3, b4⟩
  have take : ∀ (e' : EnvD), (∀ i p, (i, p) ∈ (cfgOf K G H vs as).io → e'[i]? = e[i]?) → ∀ i p, (i, p) ∈ (cfgOf K G H vs as).io → ∃ lk f xs ys, (e'.take as.length)[i]? = some (.o true lk f xs) ∧ G' p = none ∧ H' p = some (.lst ys) ∧ RvAll (cfgOf K G H vs as) G' f ys xs := fun e' he i p m => by
    obtain ⟨hi, lk, f, xs, ys, a, b⟩ := io i p m
    refine ⟨lk, f, xs, ys, ?_, b⟩
    rw [List.getElem?_take_of_lt hi, he i p m]; exact a
  cases rv with
  | val f x =>
    cases h
    exact ⟨R.g0, R.gh, R.gn, R.hf, take e fun _ _ _ => rfl, k⟩
  | new f xs =>
    cases h
    obtain ⟨p, ys, a1, a2, a3, a4, a5, _⟩ := k
    exact ⟨R.g0, R.gh, R.gn, R.hf, take e fun _ _ _ => rfl, p, ys, a1, a2, a3, a4, a5⟩
  | own i =>
    have h' : (match e[i]? with
      | some (.o false false f xs) => some (Sl.o false false f xs, (e.set i .u).take as.length)
      | _ => none) = some (r, as') := h
    split at h'
    · rename_i f xs he
      cases h'
      obtain ⟨p, ys, b1, b2, b3, b4, b5⟩ := R.ow he
      have k' : σ[i]? = some (some v) := k
      rw [k'] at b1; cases b1
      have h0 : H p = none := by
        rcases b5 with ⟨_, z⟩ | ⟨z, _⟩
        · exact z
        · cases z
      refine ⟨R.g0, R.gh, R.gn, R.hf, take _ fun j p' m => ?_, p, ys, rfl, b2, b3, b4, h0⟩
      have hj : i ≠ j := fun z => by
        subst z
        obtain ⟨_, lk, f2, xs2, z2⟩ := R.io _ _ m
        rw [he] at z2; cases z2
      rw [List.getElem?_set_ne hj]
    · cases h'
  | ext x => cases h
  | ob f cl fs =>
    cases h
    exact ⟨R.g0, R.gh, R.gn, R.hf, take e fun _ _ _ => rfl, k⟩
theorem body_ok {K : PySem.W.Frag} {ts : TS} {body : MS} (B : SS K ts body) {N : List Str} {vs : List V} {H : Hp} {Q : VK} {E : XK} {np : Nat} (hN : vs.length ≤ N.length) (h : spD K (fnSem np N.length body) vs H Q E) :
    ts { nx := fun _ H' => Q .non H', rt := Q } (L2.start N vs) H := by
  obtain ⟨G, as, r, as', A, hF, q⟩ := h
  unfold fnSem at hF
  split at hF
  case isFalse => cases hF
  rename_i hnp
  subst hnp
  obtain ⟨o, h1, h2⟩ := Option.bind_eq_some_iff.mp hF
  refine B.run (cfgOf K G H vs as) rfl G H _ _ (Rel.start A hN) o h1 _ ?_
  cases o with
  | nx e => exact fun σ' G' H' s' R' k' => q .non G' H' (fin_ok (rv := .val true .none) A R' .non h2)
  | bk e => cases h2
  | ct e => cases h2
  | rt rv e => exact fun v σ' G' H' s' R' kv k' => q v G' H' (fin_ok A R' kv h2)
theorem spD_len {K : PySem.W.Frag} {F : FD} {vs : List V} {H : Hp} {Q : VK} {E : XK} (h : spD K F vs H Q E) : ∃ as r, F as = some r ∧ vs.length = as.length := by
  obtain ⟨G, as, r, as', A, hF, q⟩ := h
  exact ⟨as, _, hF, A.len⟩
end DL
end
section
set_option maxHeartbeats 4000000
/-! DL10: the call of a def. -/
namespace DL
open PySem PySem.Spec PyProof.Rows L2

/-- the argument that is handed over: m: to be changed by the callee -/
def mkArg (m : Bool) (r : RV) (e : EnvD) : Option Sl := match m, r with
  | false, .val _ x => some (.v false x)
  | false, .ob _ cl fs => some (.ob false cl fs)
  | false, .own i => match e[i]? with
    | some (.v _ x) => some (.v false x)
    | some (.o _ _ _ xs) => some (.v false (.list xs))
    | some (.s ns) => some (.s ns)
    | _ => none
  | true, .own i => match e[i]? with
    | some (.o _ false _ xs) => some (.o true false false xs)
    | _ => none
  | _, _ => none
def mkArgs : List Bool → List RV → EnvD → Option (List Sl)
  | [], [], _ => some []
  | m :: ms, r :: rs, e => (mkArg m r e).bind fun t => (mkArgs ms rs e).map (t :: ·)
  | _, _, _ => none
/-- the slots lent; the slots handed over -/
def bSl (e : EnvD) : List Bool → List RV → List Nat
  | false :: ms, .own i :: rs => if isO e i = true then i :: bSl e ms rs else bSl e ms rs
  | _ :: ms, _ :: rs => bSl e ms rs
  | _, _ => []
def iSl : List Bool → List RV → List Nat
  | true :: ms, .own i :: rs => i :: iSl ms rs
  | _ :: ms, _ :: rs => iSl ms rs
  | _, _ => []
/-- may the lent slots be had back? -/
def clean (bs : List Nat) (r : Sl) : Bool := bs.isEmpty || match r with
  | .v f x => f || noL x
  | .o _ _ f xs => f || noLAll xs
  | .ob f _ fs => f || noLAll (fs.map (·.2))
  | _ => false
def setIo (bs : List Nat) : List Bool → List RV → List Sl → EnvD → Option EnvD
  | true :: ms, .own i :: rs, .o true _ f xs :: as', e => match e[i]? with
    | some (.o io false _ _) => if clean bs (.o false false f xs) = true then setIo bs ms rs as' (e.set i (.o io false (f || xs.all sc) xs)) else none
    | _ => none
  | false :: ms, _ :: rs, _ :: as', e => setIo bs ms rs as' e
  | [], [], [], e => some e
  | _, _, _, _ => none
def mCallK (F : FD) (ms : List Bool) : List RV × EnvD → Option (RV × EnvD) := fun p => (mkArgs ms p.1 p.2).bind fun as =>
  if (iSl ms p.1).Nodup ∧ (∀ i ∈ iSl ms p.1, i ∉ bSl p.2 ms p.1) then (F as).bind fun q =>
    if clean (bSl p.2 ms p.1) q.1 = true then (setIo (bSl p.2 ms p.1) ms p.1 q.2 p.2).bind fun e2 => match q.1 with
      | .v f x => some (.val f x, e2)
      | .o _ _ f xs => some (.new f xs, e2)
      | .ob f cl fs => some (.ob f cl fs, e2)
      | _ => none
    else none
  else none
def mCall (F : FD) (ms : List Bool) (args : MRs) : ME := fun e => (args e).bind (mCallK F ms)

section
variable {c : Cfg} {G H : Hp} {σ : St} {e : EnvD}
theorem mkArgs_len : ∀ {ms : List Bool} {rs : List RV} {as : List Sl}, mkArgs ms rs e = some as → rs.length = as.length
  | [], [], _, h => by cases h; rfl
  | m :: ms, r :: rs, as, h => by
    unfold mkArgs at h
    obtain ⟨t, h1, h⟩ := Option.bind_eq_some_iff.mp h
    obtain ⟨as', h2, h⟩ := Option.map_eq_some_iff.mp h
    subst h
    simp [mkArgs_len h2]
  | [], _ :: _, _, h => by unfold mkArgs at h; cases h
  | _ :: _, [], _, h => by unfold mkArgs at h; cases h
/-- what stands at place k of the row -/
theorem mkArgs_at : ∀ {ms : List Bool} {rs : List RV} {as : List Sl} {vs : List V} {k : Nat} {v : V} {t : Sl}, mkArgs ms rs e = some as → RvsOk c G H σ e vs rs → vs[k]? = some v → as[k]? = some t →
    ∃ m r, ms[k]? = some m ∧ rs[k]? = some r ∧ RvOk c G H σ e v r ∧ mkArg m r e = some t
  | [], [], _, vs, k, v, t, h, hr, hv, ha => by cases h; simp at ha
  | m :: ms, r :: rs, as, [], k, v, t, h, hr, hv, ha => by simp at hv
  | m :: ms, r :: rs, as, w :: vs, k, v, t, h, hr, hv, ha => by
    unfold mkArgs at h
    obtain ⟨t0, h1, h⟩ := Option.bind_eq_some_iff.mp h
    obtain ⟨as', h2, h⟩ := Option.map_eq_some_iff.mp h
    subst h
    cases k with
    | zero => simp at hv ha; subst hv ha; exact ⟨m, r, rfl, rfl, hr.1.1, h1⟩
    | succ k => simpa using mkArgs_at h2 hr.2 (by simpa using hv) (by simpa using ha)
  | [], _ :: _, _, _, _, _, _, h, _, _, _ => by unfold mkArgs at h; cases h
  | _ :: _, [], _, _, _, _, _, h, _, _, _ => by unfold mkArgs at h; cases h
theorem bSl_mem : ∀ {ms : List Bool} {rs : List RV} {i : Nat}, i ∈ bSl e ms rs → isO e i = true
  | [], _, i, h => by simp [bSl] at h
  | m :: ms, [], i, h => by cases m <;> simp [bSl] at h
  | m :: ms, r :: rs, i, h => by
    unfold bSl at h
    split at h
    · rename_i h1 h2
      cases h1; cases h2
      split at h
      · rename_i ho
        rcases List.mem_cons.mp h with h | h
        · subst h; exact ho
        · exact bSl_mem h
      · exact bSl_mem h
    · rename_i h1 h2; cases h1; cases h2; exact bSl_mem h
    · cases h
theorem bSl_of : ∀ {ms : List Bool} {rs : List RV} {k i : Nat}, ms[k]? = some false → rs[k]? = some (.own i) → isO e i = true → i ∈ bSl e ms rs
  | [], _, k, i, h, _, _ => by simp at h
  | m :: ms, [], k, i, _, h, _ => by simp at h
  | m :: ms, r :: rs, 0, i, h, h', ho => by
    simp at h h'
    subst h h'
    unfold bSl
    rw [if_pos ho]; exact List.mem_cons_self ..
  | m :: ms, r :: rs, k + 1, i, h, h', ho => by
    have ih := bSl_of (k := k) (i := i) (ms := ms) (rs := rs) (by simpa using h) (by simpa using h') ho
    unfold bSl
    split
    · rename_i h1 h2; cases h1; cases h2
      split
      · exact List.mem_cons_of_mem _ ih
      · exact ih
    · rename_i h1 h2; cases h1; cases h2; exact ih
    · rename_i h1 h2; exact (h2 _ _ _ _ rfl rfl).elim
theorem iSl_of : ∀ {ms : List Bool} {rs : List RV} {k i : Nat}, ms[k]? = some true → rs[k]? = some (.own i) → i ∈ iSl ms rs
  | [], _, k, i, h, _ => by simp at h
  | m :: ms, [], k, i, _, h => by simp at h
  | m :: ms, r :: rs, 0, i, h, h' => by
    simp at h h'
    subst h h'
    unfold iSl
    exact List.mem_cons_self ..
  | m :: ms, r :: rs, k + 1, i, h, h' => by
    have ih := iSl_of (k := k) (i := i) (ms := ms) (rs := rs) (by simpa using h) (by simpa using h')
    unfold iSl
    split
    · rename_i h1 h2; cases h1; cases h2; exact List.mem_cons_of_mem _ ih
    · rename_i h1 h2; cases h1; cases h2; exact ih
    · rename_i h1 h2; exact (h2 _ _ _ _ rfl rfl).elim
theorem iSl_inj : ∀ {ms : List Bool} {rs : List RV} {k l i : Nat}, (iSl ms rs).Nodup → ms[k]? = some true → rs[k]? = some (.own i) → ms[l]? = some true → rs[l]? = some (.own i) → k = l
  | [], _, k, l, i, _, h, _, _, _ => by simp at h
  | m :: ms, [], k, l, i, _, _, h, _, _ => by simp at h
  | m :: ms, r :: rs, 0, 0, i, _, _, _, _, _ => rfl
  | m :: ms, r :: rs, 0, l + 1, i, n, h1, h2, h3, h4 => by
    simp at h1 h2
    subst h1 h2
    unfold iSl at n
    exact absurd (iSl_of (by simpa using h3) (by simpa using h4)) (List.nodup_cons.mp n).1
  | m :: ms, r :: rs, k + 1, 0, i, n, h1, h2, h3, h4 => by
    simp at h3 h4
    subst h3 h4
    unfold iSl at n
    exact absurd (iSl_of (by simpa using h1) (by simpa using h2)) (List.nodup_cons.mp n).1
  | m :: ms, r :: rs, k + 1, l + 1, i, n, h1, h2, h3, h4 => by
    have n' : (iSl ms rs).Nodup := by
      unfold iSl at n
      split at n
      · rename_i a b; cases a; cases b; exact (List.nodup_cons.mp n).2
      · rename_i a b; cases a; cases b; exact n
      · rename_i a b; exact (b _ _ _ _ rfl rfl).elim
    have z := iSl_inj (ms := ms) (rs := rs) (k := k) (l := l) (i := i) n' (by simpa using h1) (by simpa using h2) (by simpa using h3) (by simpa using h4)
    omega
theorem iSl_at : ∀ {ms : List Bool} {rs : List RV} {i : Nat}, i ∈ iSl ms rs → ∃ k : Nat, ms[k]? = some true ∧ rs[k]? = some (RV.own i)
  | [], _, i, h => by simp [iSl] at h
  | m :: ms, [], i, h => by cases m <;> simp [iSl] at h
  | m :: ms, r :: rs, i, h => by
    unfold iSl at h
    split at h
    · rename_i h1 h2
      cases h1; cases h2
      rcases List.mem_cons.mp h with h | h
      · subst h; exact ⟨0, rfl, rfl⟩
      · obtain ⟨k, a, b⟩ := iSl_at h
        exact ⟨k + 1, by simpa using a, by simpa using b⟩
    · rename_i h1 h2; cases h1; cases h2
      obtain ⟨k, a, b⟩ := iSl_at h
      exact ⟨k + 1, by simpa using a, by simpa using b⟩
    · cases h
/-- what setIo does -/
theorem setIo_at {bs : List Nat} : ∀ {ms : List Bool} {rs : List RV} {as' : List Sl} {e e2 : EnvD}, setIo bs ms rs as' e = some e2 → (iSl ms rs).Nodup →
    (∀ j, j ∉ iSl ms rs → e2[j]? = e[j]?) ∧ e2.length = e.length ∧ ∀ (k i : Nat), ms[k]? = some true → rs[k]? = some (.own i) → ∃ io f0 xs0 lk f xs, e[i]? = some (.o io false f0 xs0) ∧ as'[k]? = some (.o true lk f xs) ∧ clean bs (.o false false f xs) = true ∧ e2[i]? = some (.o io false (f || xs.all sc) xs)
  | [], [], [], e, e2, h, _ => by
    unfold setIo at h; cases h
    exact ⟨fun _ _ => rfl, rfl, fun k i h => by simp at h⟩
  | false :: ms, r :: rs, a :: as', e, e2, h, n => by
    have h' : setIo bs ms rs as' e = some e2 := by unfold setIo at h; exact h
    have e1 : iSl (false :: ms) (r :: rs) = iSl ms rs := by cases r <;> simp [iSl]
    rw [e1] at n ⊢
    obtain ⟨a1, a2, a3⟩ := setIo_at h' n
    refine ⟨a1, a2, fun k i h1 h2 => ?_⟩
    cases k with
    | zero => simp at h1
    | succ k => simpa using a3 k i (by simpa using h1) (by simpa using h2)
  | true :: ms, .own i :: rs, .o true lk f xs :: as', e, e2, h, n => by
    unfold setIo at h
    split at h
    · rename_i io f0 xs0 he
      split at h
      · rename_i hcl
        have e1 : iSl (true :: ms) (.own i :: rs) = i :: iSl ms rs := by simp [iSl]
        rw [e1] at n ⊢
        obtain ⟨n1, n2⟩ := List.nodup_cons.mp n
        obtain ⟨a1, a2, a3⟩ := setIo_at h n2
        have hi : i < e.length := (List.getElem?_eq_some_iff.mp he).1
        have ei : e2[i]? = some (.o io false (f || xs.all sc) xs) := by rw [a1 i n1, List.getElem?_set_self hi]
        refine ⟨fun j hj => ?_, by rw [a2, List.length_set], fun k j h1 h2 => ?_⟩
        · rw [List.mem_cons, not_or] at hj
          rw [a1 j hj.2, List.getElem?_set_ne (Ne.symm hj.1)]
        · cases k with
          | zero =>
            simp at h2
            subst h2
            exact ⟨io, f0, xs0, lk, f, xs, he, rfl, hcl, ei⟩
          | succ k =>
            have h1' : ms[k]? = some true := by simpa using h1
            have h2' : rs[k]? = some (.own j) := by simpa using h2
            have hj : i ≠ j := fun z => by subst z; exact n1 (iSl_of h1' h2')
            obtain ⟨io', f0', xs0', lk', f', xs', b1, b2, b3, b4⟩ := a3 k j h1' h2'
            rw [List.getElem?_set_ne hj] at b1
            exact ⟨io', f0', xs0', lk', f', xs', b1, by simpa using b2, b3, b4⟩
      · cases h
    · cases h
  | true :: ms, .own i :: rs, .o false lk f xs :: as', e, e2, h, n => by unfold setIo at h; cases h
  | true :: ms, .own i :: rs, .u :: as', e, e2, h, n => by unfold setIo at h; cases h
  | true :: ms, .own i :: rs, .v _ _ :: as', e, e2, h, n => by unfold setIo at h; cases h
  | true :: ms, .own i :: rs, .s _ :: as', e, e2, h, n => by unfold setIo at h; cases h
  | true :: ms, .own i :: rs, .ob _ _ _ :: as', e, e2, h, n => by unfold setIo at h; cases h
  | true :: ms, .val _ _ :: rs, as', e, e2, h, n => by unfold setIo at h; cases h
  | true :: ms, .new _ _ :: rs, as', e, e2, h, n => by unfold setIo at h; cases h
  | true :: ms, .ext _ :: rs, as', e, e2, h, n => by unfold setIo at h; cases h
  | true :: ms, .ob _ _ _ :: rs, as', e, e2, h, n => by unfold setIo at h; cases h
  | true :: ms, .own i :: rs, [], e, e2, h, n => by unfold setIo at h; cases h
  | true :: ms, [], as', e, e2, h, n => by unfold setIo at h; cases h
  | false :: ms, [], as', e, e2, h, n => by unfold setIo at h; cases h
  | false :: ms, r :: rs, [], e, e2, h, n => by unfold setIo at h; cases h
  | [], _ :: _, as', e, e2, h, n => by unfold setIo at h; cases h
  | [], [], _ :: _, e, e2, h, n => by unfold setIo at h; cases h
/-- behind a call: what was lent is had back, what was handed over is as told -/
theorem Rel.after {G' H' : Hp} {e2 : EnvD} {is : List Nat} (R : Rel c G H σ e) (a : Same G G') (b : Same G' H') (cc : ∀ p o, G' p = some o → H p ≠ none → G p = some o)
    (d : ∀ p o, H p = some o → (∀ i ∈ is, σ[i]? ≠ some (some (.ref p))) → H' p = some o) (f1 : ∀ j, j ∉ is → e2[j]? = e[j]?) (fl : e2.length = e.length)
    (f2 : ∀ i ∈ is, ∃ io f0 xs0 f xs p ys, e[i]? = some (.o io false f0 xs0) ∧ e2[i]? = some (.o io false f xs) ∧ σ[i]? = some (some (.ref p)) ∧ H' p = some (.lst ys) ∧ G' p = none ∧ RvAll c G' f ys xs) : Rel c G' H' σ e2 := by
  have own : ∀ j, isOw e2 j → isOw e j := fun j ⟨x1, x2, x3, x4, z⟩ => by
    by_cases hj : j ∈ is
    · obtain ⟨io, f0, xs0, f, xs, p, ys, g1, _⟩ := f2 j hj
      exact ⟨_, _, _, _, g1⟩
    · rw [f1 j hj] at z; exact ⟨_, _, _, _, z⟩
  have own' : ∀ i ∈ is, isOw e i := fun i hi => by
    obtain ⟨io, f0, xs0, f, xs, p, ys, g1, _⟩ := f2 i hi
    exact ⟨_, _, _, _, g1⟩
  have notG : ∀ p u, H p = some u → G p = none → G' p = none := fun p u h g => by
    cases q : G' p with
    | none => rfl
    | some o => have := cc p o q (by rw [h]; exact fun z => nomatch z); rw [g] at this; cases this
  refine ⟨fun p o h => a _ _ (R.g0 p o h), b, fun p o h n => ?_, fun p o h m => ?_, fun i p m => ?_, by rw [fl]; exact R.len, fun i s t hs ht => ?_, fun i j p oi oj => R.dj i j p (own i oi) (own j oj), fun p ys m => ?_⟩
  · have hp : H p ≠ none := fun z => n (R.there z)
    exact R.gn p o (cc p o h hp) n
  · have hp := R.hf p o h m
    refine d p o hp fun i hi z => ?_
    obtain ⟨io, f0, xs0, f, xs, p', ys, g1, g2, g3, _⟩ := f2 i hi
    obtain ⟨p2, ys2, b1, b2, b3, b4, b5⟩ := R.ow g1
    rw [z] at b1; cases b1
    rcases b5 with ⟨_, z2⟩ | ⟨_, z2⟩
    · rw [h] at z2; cases z2
    · exact m (List.mem_map.mpr ⟨_, z2, rfl⟩)
  · obtain ⟨a1, lk, f, xs, a2⟩ := R.io i p m
    refine ⟨a1, ?_⟩
    by_cases hi : i ∈ is
    · obtain ⟨io, f0, xs0, f', xs', p', ys, g1, g2, _⟩ := f2 i hi
      rw [a2] at g1; cases g1
      exact ⟨_, _, _, g2⟩
    · exact ⟨_, _, _, by rw [f1 i hi]; exact a2⟩
  · by_cases hi : i ∈ is
    · obtain ⟨io, f0, xs0, f, xs, p, ys, g1, g2, g3, g4, g5, g6⟩ := f2 i hi
      rw [g2] at ht; cases ht
      rw [g3] at hs; cases hs
      obtain ⟨p2, ys2, b1, b2, b3, b4, b5⟩ := R.ow g1
      rw [g3] at b1; cases b1
      exact ⟨p, ys, rfl, g5, g4, g6, b5⟩
    · rw [f1 i hi] at ht
      refine (R.sl i s t hs ht).grow a fun p io lk f xs z1 z2 gp => ?_
      subst z1 z2
      obtain ⟨p2, ys2, b1, b2, b3, _⟩ := R.ow ht
      rw [hs] at b1; cases b1
      refine ⟨notG _ _ b3 gp, ?_⟩
      rw [b3]
      exact d _ _ b3 fun j hj z => by
        have := R.dj i j p ⟨_, _, _, _, ht⟩ (own' j hj) hs z
        subst this
        exact hi hj
  · obtain ⟨t1, t2, t3⟩ := R.tm p ys m
    exact ⟨d _ _ t1 fun i hi => t3 i (own' i hi), notG _ _ t1 t2, fun i oi => t3 i (own i oi)⟩

theorem fr_back {H0 H G2 G3 : Hp} (h0 : ∀ p, H p = none → H0 p = none) (g : ∀ p o, G2 p = some o → (H p = none ∨ ∀ xs, o ≠ .lst xs) → G3 p = some o) : Same (fr H G2) (fr H0 G3) := fun p o h => by
  unfold fr at h ⊢
  cases q : G2 p with
  | none => rw [q] at h; cases h
  | some u =>
    rw [q] at h
    by_cases ht : ∃ xs, u = .tup xs
    · obtain ⟨xs, rfl⟩ := ht
      rw [g p _ q (.inr fun _ z => nomatch z)]
      exact h
    · have hu : (if (H p).isNone = true then some u else none) = some o := by
        cases u <;> first | exact h | exact absurd ⟨_, rfl⟩ ht
      split at hu
      · rename_i hn
        have hn' : H p = none := by simpa using hn
        cases hu
        rw [g p _ q (.inl hn')]
        have := h0 p hn'
        cases o <;> first | (simp [this]; done) | exact absurd ⟨_, rfl⟩ ht
      · cases hu
open Classical in
theorem call_core {F : FD} {ms : List Bool} {rs : List RV} {vs : List V} {r : RV} {e' : EnvD} (R : Rel c G H σ e) (kr : RvsOk c G H σ e vs rs) (h : mCallK F ms (rs, e) = some (r, e')) :
    ∃ Gb as res as', ArgsOk c.K Gb H vs as ∧ F as = some (res, as') ∧ ∀ v G2 H', Post (cfgOf c.K Gb H vs as) v res as' G2 H' → ∃ G3, Same G G3 ∧ Rel c G3 H' σ e' ∧ RvOk c G3 H' σ e' v r := by
  unfold mCallK at h
  obtain ⟨as, h2, h⟩ := Option.bind_eq_some_iff.mp h
  simp only at h h2
  split at h
  case isFalse => cases h
  · rename_i hn
    obtain ⟨hnd, hdis⟩ := hn
    obtain ⟨⟨res, as'⟩, h3, h⟩ := Option.bind_eq_some_iff.mp h
    simp only at h
    split at h
    case isFalse => cases h
    · rename_i hcl
      obtain ⟨e2, h4, h⟩ := Option.bind_eq_some_iff.mp h
      -- the lent lists
      have bad : ∀ p, (∃ i ∈ bSl e ms rs, σ[i]? = some (some (.ref p))) → G p = none ∧ c.H0 p = none ∨ (G p = none ∧ ∃ ys, H p = some (.lst ys)) := fun p ⟨i, hi, z⟩ => by
        obtain ⟨io, lk, f, xs, he⟩ := isO_ow (bSl_mem hi)
        obtain ⟨p', ys, b1, b2, b3, _⟩ := R.ow he
        rw [z] at b1; cases b1
        exact .inr ⟨b2, ys, b3⟩
      have lent : ∀ p, (∃ i ∈ bSl e ms rs, σ[i]? = some (some (.ref p))) → G p = none ∧ ∃ ys, H p = some (.lst ys) := fun p ⟨i, hi, z⟩ => by
        obtain ⟨io, lk, f, xs, he⟩ := isO_ow (bSl_mem hi)
        obtain ⟨p', ys, b1, b2, b3, _⟩ := R.ow he
        rw [z] at b1; cases b1
        exact ⟨b2, ys, b3⟩
      have Gb : ∃ Gb : Hp, ∀ p, Gb p = if (∃ i ∈ bSl e ms rs, σ[i]? = some (some (.ref p))) then H p else G p := ⟨fun p => if (∃ i ∈ bSl e ms rs, σ[i]? = some (some (.ref p))) then H p else G p, fun _ => rfl⟩
      obtain ⟨Gb, hGb⟩ := Gb
      have gGb : Same G Gb := fun p o z => by
        rw [hGb]
        split
        · rename_i hx; rw [(lent p hx).1] at z; cases z
        · exact z
      have gbH : Same Gb H := fun p o z => by
        rw [hGb] at z
        split at z
        · exact z
        · exact R.gh _ _ z
      have lenk : vs.length = as.length := kr.length.trans (mkArgs_len h2)
      -- what is handed over
      have AO : ArgsOk c.K Gb H vs as := by
        refine ⟨gbH, lenk, fun k v t hv ha => ?_, fun k l p ok ol hk hl => ?_⟩
        · obtain ⟨m, r1, hm, hr, kk, ht⟩ := mkArgs_at h2 kr hv ha
          unfold mkArg at ht
          split at ht
          · cases ht
            exact Rs.mono gGb (Rv.rs kk)
          · cases ht
            exact ⟨c.H0, RvOb.mono gGb (RvOb.rs kk)⟩
          · rename_i i
            have k' : σ[i]? = some (some v) := kk
            split at ht
            · rename_i he
              cases ht
              obtain ⟨s, hs, w, rfl, qq⟩ := R.at he
              rw [k'] at hs; cases hs
              exact Rs.mono gGb (Rv.rs qq)
            · rename_i io lk f xs he
              cases ht
              obtain ⟨p, ys, b1, b2, b3, b4, _⟩ := R.ow he
              rw [k'] at b1; cases b1
              have hib : i ∈ bSl e ms rs := bSl_of hm hr (by unfold isO; rw [he])
              refine .lst (xs := ys) ?_ (RsAll.mono gGb b4.rs)
              rw [hGb, if_pos ⟨i, hib, k'⟩]
              exact b3
            · rename_i ns he
              cases ht
              obtain ⟨s, hs, a, rfl, qq⟩ := R.at he
              rw [k'] at hs; cases hs
              exact ⟨a, rfl, gGb.seq qq⟩
            · cases ht
          · rename_i i
            have k' : σ[i]? = some (some v) := kk
            split at ht
            · rename_i io f xs he
              cases ht
              obtain ⟨p, ys, b1, b2, b3, b4, _⟩ := R.ow he
              rw [k'] at b1; cases b1
              refine ⟨p, ys, rfl, ?_, b3, RsAll.mono gGb b4.rs⟩
              rw [hGb, if_neg]
              · exact b2
              · rintro ⟨j, hj, z⟩
                obtain ⟨io2, lk2, f2, xs2, he2⟩ := isO_ow (bSl_mem hj)
                have := R.dj i j p ⟨_, _, _, _, he⟩ ⟨_, _, _, _, he2⟩ k' z
                subst this
                exact hdis i (iSl_of hm hr) hj
            · cases ht
          · cases ht
        · obtain ⟨a1, a2, a3, a4, za⟩ := ok
          obtain ⟨b1, b2, b3, b4, zb⟩ := ol
          obtain ⟨m, r1, hm, hr, kk, ht⟩ := mkArgs_at h2 kr hk za
          obtain ⟨m', r1', hm', hr', kk', ht'⟩ := mkArgs_at h2 kr hl zb
          have get : ∀ {m : Bool} {r : RV} {x1 x2 x3 : Bool} {x4 : List D}, mkArg m r e = some (.o x1 x2 x3 x4) → m = true ∧ ∃ i io f xs, r = .own i ∧ e[i]? = some (.o io false f xs) := fun {m r x1 x2 x3 x4} z => by
            unfold mkArg at z
            split at z
            · cases z
            · cases z
            · split at z <;> cases z
            · split at z
              · exact ⟨rfl, _, _, _, _, rfl, by assumption⟩
              · cases z
            · cases z
          obtain ⟨rfl, i, io, f, xs, rfl, he⟩ := get ht
          obtain ⟨rfl, i', io', f', xs', rfl, he'⟩ := get ht'
          have := R.dj i i' p ⟨_, _, _, _, he⟩ ⟨_, _, _, _, he'⟩ kk kk'
          subst this
          exact iSl_inj hnd hm hr hm' hr'
      refine ⟨Gb, as, res, as', AO, h3, fun v G2 H' P => ?_⟩
      obtain ⟨Pg, Pgh, Pgn, Phf, Pio, Pres⟩ := P
      have G3 : ∃ G3 : Hp, ∀ p, G3 p = if (∃ i ∈ bSl e ms rs, σ[i]? = some (some (.ref p))) then none else G2 p := ⟨fun p => if (∃ i ∈ bSl e ms rs, σ[i]? = some (some (.ref p))) then none else G2 p, fun _ => rfl⟩
      obtain ⟨G3, hG3⟩ := G3
      have g3 : Same G G3 := fun p o z => by
        rw [hG3]
        split
        · rename_i hx; rw [(lent p hx).1] at z; cases z
        · exact Pg _ _ (gGb _ _ z)
      have g3H : Same G3 H' := fun p o z => by
        rw [hG3] at z
        split at z
        · cases z
        · exact Pgh _ _ z
      have g3c : ∀ p o, G3 p = some o → H p ≠ none → G p = some o := fun p o z n => by
        rw [hG3] at z
        split at z
        · cases z
        · rename_i hx
          have := Pgn p o z n
          have z2 : Gb p = some o := this
          rw [hGb, if_neg hx] at z2
          exact z2
      obtain ⟨u1, u2, u3⟩ := setIo_at h4 hnd
      have toG3 : ∀ p o, G2 p = some o → (H p = none ∨ ∀ xs, o ≠ .lst xs) → G3 p = some o := fun p o z n => by
        rw [hG3, if_neg]
        · exact z
        · intro hx
          obtain ⟨_, ys, hy⟩ := lent p hx
          rcases n with n | n
          · rw [hy] at n; cases n
          · have := Pgn p o z (by show H p ≠ none; rw [hy]; exact fun z => nomatch z)
            have z2 : Gb p = some o := this
            rw [hGb, if_pos hx, hy] at z2
            cases z2
            exact n ys rfl
      have frB : Same (fr H G2) (fr c.H0 G3) := fr_back (fun p hp => R.there hp) toG3
      -- a value that came back
      have emp : (bSl e ms rs).isEmpty = true → G3 = G2 := fun z => by
        funext p
        rw [hG3, if_neg]
        rintro ⟨i, hi, _⟩
        rw [List.isEmpty_iff] at z
        rw [z] at hi; cases hi
      have back : ∀ {f : Bool} {w : V} {x : D}, Rv (cfgOf c.K Gb H vs as) G2 f w x → ((bSl e ms rs).isEmpty = true ∨ f = true ∨ noL x = true) → Rv c G3 f w x := fun {f w x} k n => by
        cases f with
        | true => exact Rs.mono frB k
        | false =>
          rcases n with n | n | n
          · rw [emp n]; exact k
          · cases n
          · exact Rs.noL (fun p o z n' => toG3 p o z (.inr n')) n k
      have backAll : ∀ {f : Bool} {ws : List V} {xs : List D}, RvAll (cfgOf c.K Gb H vs as) G2 f ws xs → ((bSl e ms rs).isEmpty = true ∨ f = true ∨ noLAll xs = true) → RvAll c G3 f ws xs := fun {f ws xs} k n => by
        cases f with
        | true => exact RsAll.mono frB k
        | false =>
          rcases n with n | n | n
          · rw [emp n]; exact k
          · cases n
          · exact RsAll.noL (fun p o z n' => toG3 p o z (.inr n')) n k
      have R2 : Rel c G3 H' σ e2 := by
        refine R.after (is := iSl ms rs) g3 g3H g3c (fun p o z n => ?_) u1 u2 fun i hi => ?_
        · refine Phf p o z fun m => ?_
          obtain ⟨⟨k, p'⟩, hm, rfl⟩ := List.mem_map.mp m
          obtain ⟨_, b1, lk, f, xs, b2⟩ := ioOf_mem hm
          rw [Nat.sub_zero] at b1 b2
          obtain ⟨m', r1, hm', hr, kk, ht⟩ := mkArgs_at h2 kr b1 b2
          unfold mkArg at ht
          split at ht
          · cases ht
          · cases ht
          · split at ht <;> cases ht
          · exact n _ (iSl_of hm' hr) kk
          · cases ht
        · obtain ⟨k, hm, hr⟩ := iSl_at hi
          obtain ⟨io, f0, xs0, lk, f, xs, c1, c2, c3, c4⟩ := u3 k i hm hr
          obtain ⟨p, ys0, b1, b2, b3, b4, _⟩ := R.ow c1
          have hk : k < vs.length := by
            rw [kr.length]; exact (List.getElem?_eq_some_iff.mp hr).1
          have hv : vs[k]? = some vs[k] := List.getElem?_eq_getElem hk
          have ha : as[k]? = some as[k] := List.getElem?_eq_getElem (by omega)
          obtain ⟨m', r1, hm', hr', kk, ht⟩ := mkArgs_at h2 kr hv ha
          rw [hm] at hm'; cases hm'
          rw [hr] at hr'; cases hr'
          have kk' : σ[i]? = some (some vs[k]) := kk
          rw [b1] at kk'
          have ev : vs[k] = .ref p := (Option.some.inj (Option.some.inj kk')).symm
          have ea : as[k]? = some (.o true false false xs0) := by
            rw [ha]
            unfold mkArg at ht
            simp only [c1] at ht
            exact ht.symm
          have hmem : (k, p) ∈ (cfgOf c.K Gb H vs as).io := by
            have := ioOf_of (k := 0) (hv.trans (by rw [ev])) ea
            rwa [Nat.zero_add] at this
          obtain ⟨lk', f', xs', ys, d1, d2, d3, d4⟩ := Pio k p hmem
          rw [c2] at d1; cases d1
          have hcl' : (bSl e ms rs).isEmpty = true ∨ f = true ∨ noLAll xs = true := by
            unfold clean at c3
            simp only [Bool.or_eq_true] at c3
            exact c3
          refine ⟨io, f0, xs0, _, xs, p, ys, c1, c4, b1, d3, ?_, (backAll d4 hcl').weakAll _ fun z => by rw [Bool.or_eq_true] at z; exact z⟩
          rw [hG3]
          split
          · rfl
          · exact d2
      cases res with
      | u => cases h
      | v f x =>
        cases h
        refine ⟨G3, g3, R2, back Pres ?_⟩
        unfold clean at hcl
        simp only [Bool.or_eq_true] at hcl
        exact hcl
      | o io lk f xs =>
        cases h
        obtain ⟨p, ys, rfl, d1, d2, d3, d4⟩ := Pres
        have d5 : H p = none := d4
        have hcl' : (bSl e ms rs).isEmpty = true ∨ f = true ∨ noLAll xs = true := by
          unfold clean at hcl
          simp only [Bool.or_eq_true] at hcl
          exact hcl
        refine ⟨G3, g3, R2, p, ys, rfl, ?_, d2, backAll d3 hcl', R.there d4, fun m => ?_, fun i oi z => ?_⟩
        · rw [hG3]
          split
          · rfl
          · exact d1
        · obtain ⟨⟨p2, zs⟩, m1, m2⟩ := List.mem_map.mp m
          cases m2
          have := (R.tm _ _ m1).1
          rw [d5] at this; cases this
        · have oi' : isOw e i := by
            obtain ⟨x1, x2, x3, x4, z'⟩ := oi
            by_cases hj : i ∈ iSl ms rs
            · obtain ⟨k, hm, hr⟩ := iSl_at hj
              obtain ⟨io, f0, xs0, lk, f, xs, c1, _⟩ := u3 k i hm hr
              exact ⟨_, _, _, _, c1⟩
            · rw [u1 i hj] at z'; exact ⟨_, _, _, _, z'⟩
          obtain ⟨x1, x2, x3, x4, z'⟩ := oi'
          obtain ⟨p', ys', b1, b2, b3, _⟩ := R.ow z'
          rw [z] at b1; cases b1
          rw [d5] at b3; cases b3
      | s ns => cases h
      | ob f cl fs =>
        cases h
        have hcl' : (bSl e ms rs).isEmpty = true ∨ f = true ∨ noLAll (fs.map (·.2)) = true := by
          unfold clean at hcl
          simp only [Bool.or_eq_true] at hcl
          exact hcl
        obtain ⟨p, C, dx, us, h5, h6, h7, h8, h9⟩ := Pres
        exact ⟨G3, g3, R2, p, C, dx, us, h5, h6, toG3 _ _ h7 (.inr fun _ z => nomatch z), h8, backAll h9 hcl'⟩
open Classical in
theorem callK_keep {F : FD} {ms : List Bool} {rs : List RV} {e1 e' : EnvD} {r : RV} (h : mCallK F ms (rs, e1) = some (r, e')) : Keep e1 e' := by
  unfold mCallK at h
  obtain ⟨as, h2, h⟩ := Option.bind_eq_some_iff.mp h
  simp only at h
  split at h
  · rename_i hn
    obtain ⟨⟨res, as'⟩, h3, h⟩ := Option.bind_eq_some_iff.mp h
    simp only at h
    split at h
    · obtain ⟨e2, h4, h⟩ := Option.bind_eq_some_iff.mp h
      obtain ⟨u1, u2, u3⟩ := setIo_at h4 hn.1
      have k2 : Keep e1 e2 := fun j io f xs z => by
        have hj : j ∉ iSl ms rs := fun hm => by
          obtain ⟨k, hm', hr⟩ := iSl_at hm
          obtain ⟨io', f0, xs0, lk, f', xs', c1, _⟩ := u3 k j hm' hr
          rw [z] at c1; cases c1
        rw [u1 j hj]; exact z
      cases res with
      | v f x => cases h; exact k2
      | o io lk f xs => cases h; exact k2
      | u => cases h
      | s ns => cases h
      | ob f cl fs => cases h; exact k2
    · cases h
  · cases h
theorem mCall_ok {K : PySem.W.Frag} {F : FD} {ms : List Bool} {args : MRs} {ta : TA} {E : XK} (A : SR K ta args) : SE K (tCall (spD K F) [] E ta) (mCall F ms args) := by
  refine ⟨fun c hK G0 H0 σ e0 R0 r e' h Q q => ?_, fun e r e' h => ?_⟩
  · obtain ⟨⟨rs, e⟩, h1, h⟩ := Option.bind_eq_some_iff.mp h
    refine A.run c hK G0 H0 σ e0 R0 rs e h1 _ fun vs G H s0 R kr => ?_
    rw [List.append_nil]
    subst hK
    obtain ⟨Gb, as, res, as', AO, h3, hh⟩ := call_core R kr h
    refine ⟨Gb, as, res, as', AO, h3, fun v G2 H' P => ?_⟩
    obtain ⟨G3, s3, R3, k3⟩ := hh v G2 H' P
    exact q v G3 H' (s0.trans s3) R3 k3
  · obtain ⟨⟨rs, e1⟩, h1, h⟩ := Option.bind_eq_some_iff.mp h
    exact (A.keep _ _ _ h1).trans (callK_keep h)
end
end DL
end
section
set_option maxHeartbeats 4000000
/-! DLo: instances that are not changed once they are made: attributes, methods, making. -/
namespace DL
open PySem PySem.Spec PyProof.Rows L2

abbrev ClsAt (K : PySem.W.Frag) (cl : Str) (C : Addr) : Prop := PySem.W.nsIn K mainGlobals cl = some (some (.ref C))
theorem lookup_rv {c : Cfg} {G : Hp} {b : Bool} {f : Str} : ∀ {us : List (Str × V)} {fs : List (Str × D)} {x : D}, us.map (·.1) = fs.map (·.1) → RvAll c G b (us.map (·.2)) (fs.map (·.2)) → fs.lookup f = some x → ∃ u, us.lookup f = some u ∧ Rv c G b u x
  | [], [], x, _, _, h => by simp at h
  | [], _ :: _, x, h, _, _ => by simp at h
  | _ :: _, [], x, h, _, _ => by simp at h
  | (g, u) :: us, (g', y) :: fs, x, hk, hv, h => by
    simp only [List.map_cons, List.cons.injEq] at hk
    obtain ⟨h1, h2⟩ := hk
    have h1' : g = g' := h1
    subst h1'
    obtain ⟨v, vs', e1, r1, r2⟩ := RvAll.uncons (xs := fs.map (·.2)) (x := y) hv
    simp only [List.map_cons, List.cons.injEq] at e1
    obtain ⟨e1, e2⟩ := e1
    have e1' : u = v := e1
    subst e1' e2
    rw [List.lookup_cons] at h ⊢
    by_cases hf : f == g
    · simp only [hf] at h ⊢
      cases h
      exact ⟨u, rfl, r1⟩
    · have hf' : (f == g) = false := by simpa using hf
      simp only [hf'] at h ⊢
      exact lookup_rv h2 r2 h
theorem lookup_none {f : Str} : ∀ {us : List (Str × V)} {fs : List (Str × D)}, us.map (·.1) = fs.map (·.1) → fs.lookup f = none → us.lookup f = none
  | [], [], _, h => rfl
  | [], _ :: _, h, _ => by simp at h
  | _ :: _, [], h, _ => by simp at h
  | (g, u) :: us, (g', y) :: fs, hk, h => by
    simp only [List.map_cons, List.cons.injEq] at hk
    obtain ⟨h1, h2⟩ := hk
    have h1' : g = g' := h1
    subst h1'
    rw [List.lookup_cons] at h ⊢
    by_cases hf : f == g
    · simp only [hf] at h; cases h
    · have hf' : (f == g) = false := by simpa using hf
      simp only [hf'] at h ⊢
      exact lookup_none h2 h

/-! ### an attribute -/
def FlOk (K : PySem.W.Frag) (fl : List (Str × Str)) : Prop := ∀ cl f C, (cl, f) ∈ fl → ClsAt K cl C → Cls K C ∧ NoAttr K C f
def mFld (fl : List (Str × Str)) (f : Str) (a : ME) : ME := fun e => (a e).bind fun p => match p.1 with
  | .ob b cl fs => if fl.contains (cl, f) = true then (fs.lookup f).map fun x => (.val b x, p.2) else none
  | _ => none
theorem mFld_ok {K : PySem.W.Frag} {fl : List (Str × Str)} {f : Str} {ta : TE} {a : ME} (hf : FlOk K fl) (A : SE K ta a) : SE K (tFld K ta f) (mFld fl f a) := by
  refine ⟨fun c hK G H σ e R r e' h Q q => ?_, fun e r e' h => ?_⟩
  · obtain ⟨⟨r1, e1⟩, h1, h⟩ := Option.bind_eq_some_iff.mp h
    refine A.run c hK G H σ e R _ _ h1 _ fun v G1 H1 s1 R1 k1 => ?_
    subst hK
    simp only at h
    split at h
    · rename_i b cl fs
      split at h
      · rename_i hc
        obtain ⟨x, hx, h⟩ := Option.map_eq_some_iff.mp h
        cases h
        obtain ⟨p, C, dx, us, rfl, hC, hG, hk, hv⟩ := k1
        obtain ⟨u, hu, ru⟩ := lookup_rv hk hv hx
        obtain ⟨c1, c2⟩ := hf cl f C (by simpa using hc) hC
        exact ⟨p, C, dx, us, u, rfl, R1.gh _ _ hG, c1, c2, hu, q u G1 H1 s1 R1 ru⟩
      · cases h
    · cases h
  · obtain ⟨⟨r1, e1⟩, h1, h⟩ := Option.bind_eq_some_iff.mp h
    simp only at h
    split at h
    · split at h
      · obtain ⟨x, hx, h⟩ := Option.map_eq_some_iff.mp h
        cases h
        exact A.keep _ _ _ h1
      · cases h
    · cases h

/-! ### a method, by the class of the instance -/
def tMethA (S : Addr → Sp → Prop) (m : Str) (E : XK) (ta : TE) (t : TA) : TE := fun σ H Q => ta σ H fun x H1 => ∃ a C dx fs sp, x = .ref a ∧ H1 a = some (.ins C dx fs) ∧ fs.lookup m = none ∧ S C sp ∧
  t σ H1 fun vs H2 => sp (x :: vs) H2 Q E
def MtAt (X : Cx) (k : Nat) (m : Str) (S : Addr → Sp → Prop) : Prop := ∀ C sp, S C sp → Cls X.K C ∧ ∃ f fd ps, Meth X.K C m f ∧ FnOk X.prog X.w X.K X.mg X.base CX0 k f fd ps sp ∧ Binds X.K fd ps []
theorem pe_methA {X : Cx} {k : Nat} {m : Str} {S : Addr → Sp → Prop} {o e : Expr} {es : List Expr} {ta : TE} {t : TA} {apos pos : Pos} {pl : Sem Bool} (he : PE X o ta) (hS : MtAt X k m S) (hr : Room k X.A) (ha : PA X (e :: es) t)
    (hst : starEach (e :: es) X.env = (false, eval e X.env) :: starEach es X.env) (hpl : (backTo pos (starEach es X.env)).any (·.1) = false)
    (ht : eval (.Call (.Attribute o m apos) (e :: es) [] pos) X.env = (do
      let ov ← eval o X.env
      standAt apos.atName
      let (f, first) ← holding [ov] (getMethod ov m pl)
      callWith pos f first (backTo pos (starEach (e :: es) X.env)) (backToKw pos (keywordEach [] X.env)))) :
    PE X (.Call (.Attribute o m apos) (e :: es) [] pos) (tMethA S m E0 ta t) := by
  refine ⟨fun pins s σ H Q I h => ?_⟩
  refine PySem.W.methodCall_KW (pl := pl) (thn (he.run pins s σ H _ I h) fun u s1 ⟨x, H1, I1, rx, a, C, dx, fs, sp, ex, ea, l, hs, q⟩ => ?_) ht
  subst ex
  obtain rfl : u = Value.ref a := rx
  obtain ⟨c, f, fd, ps, hm, F, hb⟩ := hS C sp hs
  refine getmeth_ok I1 ea c hm l ?_
  refine PySem.W.callWith_K (first := [.ref a]) (h₀ := X.base) I.ok.mod.kin hm.kp (thn (ha.run pos pins s1 σ H1 _ I1 q) fun us s2 ⟨vs, H2, I2, r, q2⟩ => ⟨I2.kIn, ?_⟩) hst hpl
  exact run_fn (us := .ref a :: us) (vs := .ref a :: vs) F hr hb .nil pass0 I2 (.cons rfl r) (by rw [List.append_nil]; exact q2)
theorem pe_methA0 {X : Cx} {k : Nat} {m : Str} {S : Addr → Sp → Prop} {o : Expr} {ta : TE} {apos pos : Pos} {pl : Sem Bool} (he : PE X o ta) (hS : MtAt X k m S) (hr : Room k X.A)
    (ht : eval (.Call (.Attribute o m apos) [] [] pos) X.env = (do
      let ov ← eval o X.env
      standAt apos.atName
      let (f, first) ← holding [ov] (getMethod ov m pl)
      callWith pos f first (backTo pos (starEach [] X.env)) (backToKw pos (keywordEach [] X.env)))) :
    PE X (.Call (.Attribute o m apos) [] [] pos) (tMethA S m E0 ta tNil) := by
  refine ⟨fun pins s σ H Q I h => ?_⟩
  refine PySem.W.methodCall_KW (pl := pl) (thn (he.run pins s σ H _ I h) fun u s1 ⟨x, H1, I1, rx, a, C, dx, fs, sp, ex, ea, l, hs, q⟩ => ?_) ht
  subst ex
  obtain rfl : u = Value.ref a := rx
  obtain ⟨c, f, fd, ps, hm, F, hb⟩ := hS C sp hs
  refine getmeth_ok I1 ea c hm l ?_
  exact PySem.W.callWith_K0 (first := [.ref a]) I1.kIn hm.kp (run_fn (us := [.ref a]) (vs := [.ref a]) F hr hb .nil pass0 I1 (.cons rfl .nil) q)
/-- which promise: by the class's name -/
def TabS (K : PySem.W.Frag) (tab : List (Str × FD)) (C : Addr) (sp : Sp) : Prop := ∃ cl F, tab.lookup cl = some F ∧ ClsAt K cl C ∧ sp = spD K F
def mMeth (tab : List (Str × FD)) (m : Str) (ms : List Bool) (o : ME) (args : MRs) : ME := fun e => (o e).bind fun p => match p.1 with
  | .ob b cl fs => if (fs.lookup m).isNone = true then (tab.lookup cl).bind fun F => (args p.2).bind fun q => mCallK F (false :: ms) (.ob b cl fs :: q.1, q.2) else none
  | _ => none
theorem mMeth_ok {K : PySem.W.Frag} {tab : List (Str × FD)} {m : Str} {ms : List Bool} {o : ME} {args : MRs} {ta : TE} {t : TA} (A : SE K ta o) (B : SR K t args) : SE K (tMethA (TabS K tab) m E0 ta t) (mMeth tab m ms o args) := by
  refine ⟨fun c hK G0 H0 σ e0 R0 r e' h Q q => ?_, fun e r e' h => ?_⟩
  · obtain ⟨⟨r1, e1⟩, h1, h⟩ := Option.bind_eq_some_iff.mp h
    refine A.run c hK G0 H0 σ e0 R0 _ _ h1 _ fun v G1 H1 s1 R1 k1 => ?_
    simp only at h
    split at h
    · rename_i b cl fs
      split at h
      · rename_i hn
        obtain ⟨F, hF, h⟩ := Option.bind_eq_some_iff.mp h
        obtain ⟨⟨rs, e2⟩, h2, h⟩ := Option.bind_eq_some_iff.mp h
        obtain ⟨p, C, dx, us, rfl, hC, hG, hk, hv⟩ := id k1
        refine ⟨p, C, dx, us, _, rfl, R1.gh _ _ hG, lookup_none hk (by simpa using hn), ⟨cl, F, hF, by rw [← hK]; exact hC, rfl⟩, ?_⟩
        refine B.run c hK G1 H1 σ e1 R1 rs e2 h2 _ fun vs G2 H2 s2 R2 kr => ?_
        subst hK
        have kr' : RvsOk c G2 H2 σ e2 (.ref p :: vs) (.ob b cl fs :: rs) := ⟨⟨RvOb.mono s2 k1, rfl⟩, kr⟩
        obtain ⟨Gb, as, res, as', AO, h3, hh⟩ := call_core R2 kr' h
        refine ⟨Gb, as, res, as', AO, h3, fun v G3 H' P => ?_⟩
        obtain ⟨G4, s4, R4, k4⟩ := hh v G3 H' P
        exact q v G4 H' ((s1.trans s2).trans s4) R4 k4
      · cases h
    · cases h
  · obtain ⟨⟨r1, e1⟩, h1, h⟩ := Option.bind_eq_some_iff.mp h
    simp only at h
    split at h
    · split at h
      · obtain ⟨F, hF, h⟩ := Option.bind_eq_some_iff.mp h
        obtain ⟨⟨rs, e2⟩, h2, h⟩ := Option.bind_eq_some_iff.mp h
        exact ((A.keep _ _ _ h1).trans (B.keep _ _ _ h2)).trans (callK_keep h)
      · cases h
    · cases h

/-! ### making an instance: __init__ stores its attributes one by one -/
def del (H : Hp) (x : Addr) : Hp := fun p => if p = x then none else H p
theorem del_ne {H : Hp} {x p : Addr} (h : p ≠ x) : del H x p = H p := if_neg h
theorem del_same {H : Hp} {x : Addr} : del H x x = none := if_pos rfl
theorem del_upd {H : Hp} {x : Addr} {o : HO} (h : H x = none) : del (upd H x o) x = H := by
  funext p
  by_cases hp : p = x
  · subst hp; rw [del_same, h]
  · rw [del_ne hp, upd_ne hp]
def runI : List (Str × ME) → EnvD → List (Str × (Bool × D)) → Option (List (Str × (Bool × D)))
  | [], _, acc => some acc
  | (f, m) :: r, e, acc => (mEsc m e).bind fun p => if (acc.map (·.1)).contains f = true then none else runI r p.2 (acc ++ [(f, p.1)])
def noIo : Sl → Bool
  | .o _ _ _ _ => false
  | _ => true
def initSem (np N : Nat) (cl : Str) (ins : List (Str × ME)) : FD := fun as => if as.length + 1 = np ∧ as.all noIo = true then
  (runI ins ((.u :: as) ++ List.replicate (N - np) .u) []).map fun acc => (.ob (flagOf (acc.map (·.2))) cl (acc.map fun p => (p.1, p.2.2)), as) else none
def spI (K : PySem.W.Frag) (cl : Str) (F : FD) : Sp := fun vs H Q _ => ∃ x dx C vs' G as r as', vs = .ref x :: vs' ∧ ClsAt K cl C ∧ H x = some (.ins C dx []) ∧ G x = none ∧ ArgsOk K G (del H x) vs' as ∧ F as = some (r, as') ∧
  ∀ G' H', Post (cfgOf K G (del H x) vs' as) (.ref x) r as' G' H' → Q .non H'
theorem mMake_ok {K : PySem.W.Frag} {F : FD} {cl : Str} {C : Addr} {ms : List Bool} {args : MRs} {ta : TA} {E : XK} (hC : ClsAt K cl C) (A : SR K ta args) : SE K (tMake C (spI K cl F) [] E ta) (mCall F ms args) := by
  refine ⟨fun c hK G0 H0 σ e0 R0 r e' h Q q => ?_, (mCall_ok (E := E) A).keep⟩
  obtain ⟨⟨rs, e⟩, h1, h⟩ := Option.bind_eq_some_iff.mp h
  refine A.run c hK G0 H0 σ e0 R0 rs e h1 _ fun vs G H s0 R kr => ?_
  subst hK
  intro x dx hx hdx hne
  have R1 : Rel c G (upd H dx (.own x)) σ e := R.newH hdx
  have hx1 : upd H dx (.own x) x = none := by rw [upd_ne hne.symm]; exact hx
  have kr1 : RvsOk c G (upd H dx (.own x)) σ e vs rs := by
    clear h h1
    induction vs generalizing rs with
    | nil => cases rs with | nil => trivial | cons => exact kr.elim
    | cons v vs ih => cases rs with | nil => exact kr.elim | cons r rs => exact ⟨⟨kr.1.1.last kr.1.2 (Same.refl _), kr.1.2⟩, ih rs kr.2⟩
  obtain ⟨Gb, as, res, as', AO, h3, hh⟩ := call_core R1 kr1 h
  have hGx : Gb x = none := by
    cases q : Gb x with
    | none => rfl
    | some o => have := AO.gh _ _ q; rw [hx1] at this; cases this
  rw [List.append_nil]
  refine ⟨x, dx, C, vs, Gb, as, res, as', rfl, hC, upd_same, hGx, by rw [del_upd hx1]; exact AO, h3, fun G' H' P => ⟨rfl, ?_⟩⟩
  rw [del_upd hx1] at P
  obtain ⟨G4, s4, R4, k4⟩ := hh _ G' H' P
  exact q _ G4 H' (s0.trans s4) R4 k4

theorem putF_new {f : Str} {y : V} : ∀ {us : List (Str × V)}, f ∉ us.map (·.1) → putF f y us = us ++ [(f, y)]
  | [], _ => rfl
  | (g, w) :: us, h => by
    rw [List.map_cons, List.mem_cons, not_or] at h
    show (if g = f then _ else (g, w) :: putF f y us) = _
    rw [if_neg (fun z => h.1 z.symm), putF_new h.2]; rfl
structure IS (K : PySem.W.Frag) (ts : TS) (ins : List (Str × ME)) : Prop where
  run : ∀ (c : Cfg), c.K = K → ∀ x C dx us accD G H σ e, Cls K C → (∀ f m, (f, m) ∈ ins → NoAttr K C f) → Rel (c.wt ((x, .ins C dx us) :: c.tm)) G H σ e → x ∉ c.tm.map (·.1) → c.H0 x = none → σ[0]? = some (some (.ref x)) →
    us.map (·.1) = accD.map (·.1) → RvL c G (us.map (·.2)) (accD.map (·.2)) → us.length + ins.length < 1000 → ∀ res, runI ins e accD = some res → ∀ D : Ends,
      (∀ G' H' e' us', Same G G' → Rel (c.wt ((x, .ins C dx us') :: c.tm)) G' H' σ e' → us'.map (·.1) = res.map (·.1) → RvL c G' (us'.map (·.2)) (res.map (·.2)) → D.nx σ H') → ts D σ H
section
variable {K : PySem.W.Frag}
theorem is_nil : IS K tNext [] := by
  refine ⟨fun c hK x C dx us accD G H σ e hC hN R nx h0 hs hk hv hl res h D q => ?_⟩
  cases h
  exact q G H e us (Same.refl _) R hk hv
theorem is_cons {te : TE} {ts : TS} {f : Str} {m : ME} {ins : List (Str × ME)} (A : SE K te m) (B : IS K ts ins) : IS K (tSeq (sFld K (tVar 0) te f) ts) ((f, m) :: ins) := by
  refine ⟨fun c hK x C dx us accD G H σ e hC hN R nx h0 hs hk hv hl res h D q => ?_⟩
  unfold runI at h
  obtain ⟨⟨⟨fy, y⟩, e1⟩, h1, h⟩ := Option.bind_eq_some_iff.mp h
  simp only at h
  split at h
  · cases h
  · rename_i hnew
    have hnew' : f ∉ us.map (·.1) := by rw [hk]; simpa using hnew
    refine (mEsc_ok A).run (c.wt ((x, .ins C dx us) :: c.tm)) hK G H σ e R fy y e1 h1 _ fun v G1 H1 s1 R1 k1 => ?_
    refine ⟨.ref x, hs, x, C, dx, us, rfl, ?_, hC, hN f m (List.mem_cons_self ..), by simp only [List.length_cons] at hl; omega, ?_⟩
    · exact (R1.tm x _ (List.mem_cons_self ..)).1
    · rw [putF_new hnew']
      have R2 := Rel.setTm (c := c) (tm := c.tm) R1 nx h0 (.ins C dx (us ++ [(f, v)]))
      refine B.run c hK x C dx (us ++ [(f, v)]) (accD ++ [(f, (fy, y))]) G1 _ σ e1 hC (fun g m' hm => hN g m' (List.mem_cons_of_mem _ hm)) R2 nx h0 hs (by rw [List.map_append, List.map_append, hk]; rfl) ?_ (by simp only [List.length_append, List.length_cons, List.length_nil] at hl ⊢; omega) res h D fun G' H' e' us' s' => q G' H' e' us' (s1.trans s')
      rw [List.map_append, List.map_append]
      exact RvL.snoc (c := c) (p := (fy, y)) k1 (RvL.mono s1 hv)
theorem ioOf_none : ∀ {vs : List V} {as : List Sl} {k : Nat}, as.all noIo = true → ioOf k vs as = []
  | [], as, k, _ => by simp [ioOf]
  | v :: vs, [], k, _ => by cases v <;> simp [ioOf]
  | v :: vs, a :: as, k, h => by
    rw [List.all_cons, Bool.and_eq_true] at h
    unfold ioOf
    split
    · rename_i h1 h2; cases h2; cases h.1
    · rename_i h1 h2; cases h1; cases h2; exact ioOf_none h.2
    · rfl
theorem init_start {G H : Hp} {vs : List V} {as : List Sl} {N : List Str} {x C dx : Addr} (A : ArgsOk K G (del H x) vs as) (hx : H x = some (.ins C dx [])) (gx : G x = none) (hio : as.all noIo = true) (hN : vs.length + 1 ≤ N.length) :
    Rel ((cfgOf K G (del H x) vs as).wt [(x, .ins C dx [])]) G H (L2.start N (.ref x :: vs)) ((.u :: as) ++ List.replicate (N.length - (as.length + 1)) .u) := by
  have io0 : (cfgOf K G (del H x) vs as).io = [] := ioOf_none hio
  have nown : ∀ i, ¬ isOw ((.u :: as) ++ List.replicate (N.length - (as.length + 1)) .u) i := fun i ⟨a, b, d, k, z⟩ => by
    rcases env_get (as := .u :: as) z with ⟨_, z⟩ | ⟨_, z⟩
    · cases i with
      | zero => cases z
      | succ i =>
        have z' : as[i]? = some (.o a b d k) := z
        have hm := List.mem_of_getElem? z'
        have := List.all_eq_true.mp hio _ hm
        cases this
    · cases z
  refine ⟨Same.refl _, fun p o z => ?_, fun p o z _ => z, fun p o z _ => ?_, fun i p m => ?_, ?_, fun i s t hs ht => ?_, fun i j p oi => absurd oi (nown i), fun p o m => ?_⟩
  · have := A.gh _ _ z
    by_cases hp : p = x
    · subst hp; rw [del_same] at this; cases this
    · rw [del_ne hp] at this; exact this
  · have z' : del H x p = some o := z
    by_cases hp : p = x
    · subst hp; rw [del_same] at z'; cases z'
    · rw [del_ne hp] at z'; exact z'
  · have m' : (i, p) ∈ (cfgOf K G (del H x) vs as).io := m
    rw [io0] at m'; cases m'
  · unfold L2.start
    have := A.len
    simp only [List.length_append, List.length_map, List.length_replicate, List.length_cons] at hN ⊢
    omega
  · rcases start_get hs with ⟨hi, v, hv, rfl⟩ | ⟨hi, rfl⟩
    · rcases env_get (as := .u :: as) ht with ⟨_, ht⟩ | ⟨hi', _⟩
      · cases i with
        | zero => simp at ht; subst ht; trivial
        | succ i =>
          have hv' : vs[i]? = some v := by simpa using hv
          have ht' : as[i]? = some t := by simpa using ht
          have q := A.at_ i v t hv' ht'
          have hm := List.mem_of_getElem? ht'
          have hno := List.all_eq_true.mp hio _ hm
          unfold ArgOk at q
          split at q
          · exact ⟨v, rfl, q⟩
          · cases hno
          · obtain ⟨a, rfl, h1⟩ := q; exact ⟨a, rfl, h1⟩
          · obtain ⟨H0, q⟩ := q; exact ⟨v, rfl, q⟩
          · exact q.elim
      · simp only [List.length_cons] at hi hi'
        have := A.len
        omega
    · rcases env_get (as := .u :: as) ht with ⟨hi', _⟩ | ⟨_, rfl⟩
      · simp only [List.length_cons] at hi hi'
        have := A.len
        omega
      · trivial
  · rw [List.mem_singleton] at m
    cases m
    exact ⟨hx, gx, fun i oi => absurd oi (nown i)⟩
/-- the body of __init__ keeps the promise -/
theorem init_body {ts : TS} {ins : List (Str × ME)} {cl : Str} (B : IS K ts ins) {N : List Str} {vs : List V} {H : Hp} {Q : VK} {E : XK} {np : Nat} (hN : vs.length ≤ N.length) (hcl : ∀ C, ClsAt K cl C → Cls K C ∧ ∀ f m, (f, m) ∈ ins → NoAttr K C f) (hlen : ins.length < 1000)
    (h : spI K cl (initSem np N.length cl ins) vs H Q E) : ts { nx := fun _ H' => Q .non H', rt := Q } (L2.start N vs) H := by
  obtain ⟨x, dx, C, vs', G, as, r, as', rfl, hC, hx, gx, A, hF, q⟩ := h
  unfold initSem at hF
  split at hF
  case isFalse => cases hF
  rename_i hc
  obtain ⟨hnp, hio⟩ := hc
  obtain ⟨acc, h1, h2⟩ := Option.map_eq_some_iff.mp hF
  cases h2
  subst hnp
  obtain ⟨c1, c2⟩ := hcl C hC
  have R := init_start (N := N) A hx gx hio (by simpa using hN)
  have io0 : (cfgOf K G (del H x) vs' as).io = [] := ioOf_none hio
  refine B.run (cfgOf K G (del H x) vs' as) rfl x C dx [] [] G H _ _ c1 c2 R (by simp) del_same rfl rfl trivial (by simpa using hlen) acc h1 _ fun G' H' e' us' s' R' hk hv => ?_
  obtain ⟨t1, t2, _⟩ := R'.tm x _ (List.mem_cons_self ..)
  refine q (upd G' x (.ins C dx us')) H' ⟨fun p o z => same_new t2 _ _ (s' _ _ z), fun p o z => ?_, fun p o z n => ?_, fun p o z m => R'.hf p o z m, fun i p m => (by rw [io0] at m; cases m), x, C, dx, us', rfl, hC, upd_same, ?_, ?_⟩
  · by_cases hp : p = x
    · subst hp; rw [upd_same] at z; cases z; exact t1
    · rw [upd_ne hp] at z; exact R'.gh _ _ z
  · by_cases hp : p = x
    · subst hp; exact absurd del_same n
    · rw [upd_ne hp] at z; exact R'.gn p o z n
  · rw [hk, List.map_map]; rfl
  · have : RvAll (cfgOf K G (del H x) vs' as) G' (flagOf (acc.map (·.2))) (us'.map (·.2)) ((acc.map (·.2)).map (·.2)) := hv.all fun z => z
    have := this.mono (same_new (o := .ins C dx us') t2)
    rw [List.map_map] at this ⊢
    exact this
end
end DL
end
section
set_option maxHeartbeats 4000000
/-! DL11: from the model's syntax to the semantics on data. -/
namespace DL
open PySem PySem.Spec PyProof.Rows L2

/-- what the compiler knows: the def's names; the defs by name; the built-ins that nothing hides; the module's constants -/
structure CT where
  N : List Str
  fs : List (Str × FD × List Bool)
  bs : List Str
  ks : List (Str × V × D)
  cls : List Str := []
  mts : List (Str × List (Str × FD) × List Bool) := []
  fl : List (Str × Str) := []
/-- what holds of the written part alone -/
structure TOk (T : CT) (K : PySem.W.Frag) : Prop where
  ks : ∀ x v d, T.ks.lookup x = some (v, d) → Dp K (fun _ => none) v d
  cls : ∀ x ∈ T.cls, ∃ C, ClsAt K x C
  fl : FlOk K T.fl
/-- a class stands, to be made -/
def MakeOk (X : Cx) (x : Str) (F : FD) : Prop := ∃ k C f fd ps, Mk X.K C f ∧ FnOk X.prog X.w X.K X.mg X.base CX0 k f fd ps (spI X.K x F) ∧ Room (k + 1) X.A ∧ X.mg x = some (.ref C) ∧ Binds X.K fd ps [] ∧ ClsAt X.K x C
/-- a callee stands -/
def CalOk (X : Cx) (x : Str) (F : FD) : Prop := ∃ k f fd ps, FnOk X.prog X.w X.K X.mg X.base CX0 k f fd ps (spD X.K F) ∧ Room k X.A ∧ X.mg x = some (.ref f) ∧ PySem.W.keepIn X.K (.ref f) = true ∧ Binds X.K fd ps []
structure COk (T : CT) (X : Cx) : Prop where
  calm : X.calm = true
  N : X.N = T.N
  nd : X.N.Nodup
  fs : ∀ x F ms, T.fs.lookup x = some (F, ms) → x ∉ T.cls → CalOk X x F
  mkc : ∀ x F ms, T.fs.lookup x = some (F, ms) → x ∈ T.cls → MakeOk X x F
  mt : ∀ m tab ms, T.mts.lookup m = some (tab, ms) → ∃ k, MtAt X k m (TabS X.K tab) ∧ Room k X.A
  bs : ∀ x ∈ T.bs, X.mg x = none
  ks : ∀ x v d, T.ks.lookup x = some (v, d) → ∃ u, X.mg x = some u ∧ RelV v u ∧ Dp X.K (fun _ => none) v d
  un : X.A.units + 65 < cLine
theorem COk.blk {T : CT} {X : Cx} (h : COk T X) (s : Shared) (H : Hp) (scope : Scope) (cenv : Env) (fp : List Addr) : COk T (X.blk s H scope cenv fp) :=
  ⟨h.calm, h.N, h.nd, h.fs, h.mkc, h.mt, h.bs, h.ks, h.un⟩
/-- the scope where one stands is the written one, a captured name perhaps a cell -/
structure ScOk (X : Cx) (sc : Scope) : Prop where
  rel : ∀ x k, sc.names.lookup x = some k → X.env.scope.names.lookup x = some k ∨ (k = .free ∧ X.env.scope.names.lookup x = some .cell)
  fn : ∀ x, sc.names.lookup x = some .cell → X.fn x = true
theorem ScOk.of {X : Cx} (h : ∀ x, X.fn x = true) : ScOk X X.env.scope := ⟨fun x k e => .inl e, fun x _ => h x⟩
theorem relabel_lookup {sc : Scope} {env : Env} {x : Str} : ∀ {names : List (Str × NameKind)} {k : NameKind}, names.lookup x = some k →
    (names.map fun (n, k) => if (k == NameKind.free && env.scope.kind == .function && env.kindOf n == some .cell) then (n, NameKind.cell) else (n, k)).lookup x = some k ∨
      (k = .free ∧ (names.map fun (n, k) => if (k == NameKind.free && env.scope.kind == .function && env.kindOf n == some .cell) then (n, NameKind.cell) else (n, k)).lookup x = some .cell)
  | [], _, h => by simp at h
  | (n, k0) :: r, k, h => by
    have ih := relabel_lookup (sc := sc) (env := env) (x := x) (names := r) (k := k)
    rw [List.map_cons]
    by_cases hx : x == n
    · rw [List.lookup_cons] at h
      simp only [hx] at h
      cases h
      by_cases hc : (k0 == NameKind.free && env.scope.kind == .function && env.kindOf n == some .cell) = true
      · have hk : k0 = .free := by
          simp only [Bool.and_eq_true, beq_iff_eq] at hc
          exact hc.1.1
        refine .inr ⟨hk, ?_⟩
        simp only [hc, if_true, List.lookup_cons, hx]
      · refine .inl ?_
        have hc' := Bool.not_eq_true _ ▸ hc
        simp only [hc', Bool.false_eq_true, if_false, List.lookup_cons, hx]
    · have hx' : (x == n) = false := by simpa using hx
      rw [List.lookup_cons] at h
      simp only [hx'] at h
      have e : ∀ (b : Prop) [Decidable b] (rest : List (Str × NameKind)), ((if b then (n, NameKind.cell) else (n, k0)) :: rest).lookup x = rest.lookup x := fun b _ rest => by
        by_cases hb : b
        · rw [if_pos hb, List.lookup_cons]; simp only [hx']
        · rw [if_neg hb, List.lookup_cons]; simp only [hx']
      rw [e]
      exact ih h
theorem ScOk.blk {X : Cx} {s : Shared} {H : Hp} {scope : Scope} {cl : List (Str × Addr)} {C : Addr} {fp : List Addr} : ScOk (X.blk s H scope (compEnvC scope cl C X.env) fp) scope :=
  ⟨fun x k h => relabel_lookup (sc := scope) (env := X.env) h, fun x hx => by
    show (scope.names.lookup x == some NameKind.cell) = true
    rw [hx]; rfl⟩

/-! ### what an expression is not -/
def notStar : Expr → Bool
  | .Starred .. => false
  | _ => true
theorem star1 {e : Expr} {es : List Expr} {env : Env} (h : notStar e = true) : starEach (e :: es) env = (false, eval e env) :: starEach es env := by
  cases e <;> first | rfl | cases h
theorem stars {env : Env} : ∀ {es : List Expr} {pos : Pos}, es.all notStar = true → (backTo pos (starEach es env)).any (·.1) = false
  | [], _, _ => rfl
  | e :: es, pos, h => by
    rw [List.all_cons, Bool.and_eq_true] at h
    rw [star1 h.1]
    show (false || (backTo pos (starEach es env)).any (·.1)) = false
    rw [stars h.2]; rfl
def notComp : Expr → Bool
  | .ListComp .. => false
  | .SetComp .. => false
  | .DictComp .. => false
  | _ => true
theorem swaps_no {e : Expr} {t : Option Expr} {l : Nat} {env : Env} (h : notComp e = true) : swapsWith e t l env = pure false := by
  cases e <;> first | rfl | cases h
theorem swaps_sub {e a b : Expr} {p : Pos} {l : Nat} {env : Env} : swapsWith e (some (.Subscript a b p)) l env = pure false := by
  cases e <;> rfl
def notTup : Expr → Bool
  | .Tuple .. => false
  | _ => true
theorem swapped_no {tg e : Expr} {env : Env} (h : notTup e = true) : swappedStores [tg] e env = pure none := by
  cases e <;> first | (cases tg <;> rfl) | cases h
def notSet : Expr → Bool
  | .Set .. => false
  | _ => true
theorem folded_no {e : Expr} {env : Env} (h : notSet e = true) (x : Value) : foldedSetIterable e env x = pure x := by
  cases e <;> first | rfl | cases h
theorem marks_no {op : CmpOp} {e : Expr} (h : notSet e = true) : behindInMarks op e = false := by
  cases e <;> first | rfl | cases h
theorem last_no {op op' : CmpOp} {b c : Expr} (h : notSet c = true) : lastMarks [op, op'] [b, c] = false := marks_no h
/-- an expression whose test is its value's -/
def plainT : Expr → Bool
  | .UnaryOp .Not _ _ => false
  | .BoolOp .. => false
  | .IfExp .. => false
  | .Compare .. => false
  | _ => true
theorem plain_no {e : Expr} {env : Env} (h : plainT e = true) (whole : Sem Value) : isTrue e env whole = (do let v ← whole; standAt e.pos; holding [v] (truthy v)) := by
  cases e with
  | UnaryOp op a p => cases op <;> first | rfl | cases h
  | BoolOp => cases h
  | IfExp => cases h
  | Compare => cases h
  | _ => rfl
def notSlice : Expr → Bool
  | .Slice .. => false
  | _ => true
theorem plain_ix {e : Expr} (h : notSlice e = true) : PlainIx e := by
  intro o i
  cases e <;> first | rfl | cases h

/-! ### names and constants -/
def idx (N : List Str) (x : Str) : Option Nat := N.findIdx? (· == x)
theorem idx_ok {N : List Str} {x : Str} {i : Nat} (h : idx N x = some i) : N[i]? = some x := by
  unfold idx at h
  obtain ⟨hi, h1, _⟩ := List.findIdx?_eq_some_iff_getElem.mp h
  rw [List.getElem?_eq_getElem hi]
  rw [beq_iff_eq.mp h1]
def visB (sc : Scope) (x : Str) : Bool := match sc.names.lookup x with
  | some .local => true
  | some .cell => true
  | some .free => true
  | _ => false
theorem visB_ok {sc : Scope} {x : Str} (h : visB sc x = true) : Vis sc x := by
  unfold visB at h
  split at h
  · exact .inl (by assumption)
  · exact .inr (.inl (by assumption))
  · exact .inr (.inr (by assumption))
  · cases h
def locB (sc : Scope) (x : Str) : Bool := match sc.names.lookup x with
  | some .local => true
  | some .cell => true
  | _ => false
theorem locB_ok {sc : Scope} {x : Str} (h : locB sc x = true) : Loc sc x := by
  unfold locB at h
  split at h
  · exact .inl (by assumption)
  · exact .inr (by assumption)
  · cases h
def glB (sc : Scope) (x : Str) : Bool := match sc.names.lookup x with
  | some .globalImplicit => true
  | _ => false
theorem glB_ok {X : Cx} {x : Str} (h : glB X.env.scope x = true) : Gl X x := by
  unfold glB at h
  split at h
  · assumption
  · cases h
theorem ScOk.vis {X : Cx} {sc : Scope} (h : ScOk X sc) {x : Str} (v : visB sc x = true) : Vis X.env.scope x := by
  rcases visB_ok v with z | z | z
  · rcases h.rel _ _ z with y | ⟨y, _⟩
    · exact .inl y
    · cases y
  · rcases h.rel _ _ z with y | ⟨y, _⟩
    · exact .inr (.inl y)
    · cases y
  · rcases h.rel _ _ z with y | ⟨_, y⟩
    · exact .inr (.inr y)
    · exact .inr (.inl y)
theorem ScOk.loc {X : Cx} {sc : Scope} (h : ScOk X sc) {x : Str} (v : locB sc x = true) : Loc X.env.scope x ∧ (X.fn x = true ∨ X.env.scope.names.lookup x = some .local) := by
  rcases locB_ok v with z | z
  · rcases h.rel _ _ z with y | ⟨y, _⟩
    · exact ⟨.inl y, .inr y⟩
    · cases y
  · rcases h.rel _ _ z with y | ⟨y, _⟩
    · exact ⟨.inr y, .inl (h.fn _ z)⟩
    · cases y
theorem ScOk.gl {X : Cx} {sc : Scope} (h : ScOk X sc) {x : Str} (v : glB sc x = true) : Gl X x := by
  unfold glB at v
  split at v
  · rename_i z
    rcases h.rel _ _ z with y | ⟨y, _⟩
    · exact y
    · cases y
  · cases v
theorem ScOk.own {X : Cx} {sc scope : Scope} {N : List Str} {own : List (Str × Nat)} (h : ScOk X sc) (b : BlkOk N sc scope own) : BlkOk N X.env.scope scope own :=
  ⟨b.kind, b.uniq, b.ix, fun y hy e => by
    rcases b.free y hy e with z | z
    · rcases h.rel _ _ z with w | ⟨w, _⟩
      · exact .inl w
      · cases w
    · rcases h.rel _ _ z with w | ⟨_, w⟩
      · exact .inr w
      · exact .inl w, b.own⟩
/-- no dunder name -/
def okNm (x : Str) : Bool := !(x == ("__debug__" : Str)) && !(x == ("__classdict__" : Str)) && !(x == ("__name__" : Str))
theorem okNm_ok {x : Str} (h : okNm x = true) : (x == ("__debug__" : Str)) = false ∧ (x == ("__classdict__" : Str)) = false ∧ x ≠ "__name__" := by
  unfold okNm at h
  simp only [Bool.and_eq_true, Bool.not_eq_true'] at h
  exact ⟨h.1.1, h.1.2, fun e => by rw [e] at h; simp at h⟩
section
variable (T : CT)
def cName (sc : Scope) (x : Str) : Option ME :=
  if okNm x = true then
    if visB sc x = true then (idx T.N x).map mVar
    else if glB sc x = true then (T.ks.lookup x).bind fun d => match d with
      | (.str _, .str z) => some (mC (.str z))
      | (.int _, .int z) => some (mC (.int z))
      | (_, d) => some (mK d)
    else none
  else none
def cConst : Const → Option ME
  | .none => some (mC .none)
  | .bool b => some (mC (.bool b))
  | .int i => some (mC (.int i))
  | .str s => some (mC (.str s))
  | _ => none
/-- an expression of a block, whatever the run: its reading and its semantics -/
def DU (K : PySem.W.Frag) (sc : Scope) (e : Expr) (m : ME) : Prop := ∃ te, (∀ X, COk T X → ScOk X sc → X.K = K → PE X e te) ∧ SE K te m
def DUT (K : PySem.W.Frag) (sc : Scope) (e : Expr) (m : MT) : Prop := ∃ tt, (∀ X, COk T X → ScOk X sc → X.K = K → PT X e tt) ∧ ST K tt m
/-- a value and a test at once -/
def DUB (K : PySem.W.Frag) (sc : Scope) (e : Expr) (m : ME) : Prop := ∃ te, (∀ X, COk T X → ScOk X sc → X.K = K → PE X e te ∧ PT X e (tB te)) ∧ SE K te m
def DUI (K : PySem.W.Frag) (sc : Scope) (tg iter : Expr) (m : MI) : Prop := ∃ wi, (∀ X, COk T X → ScOk X sc → X.K = K → PI X tg iter wi) ∧ SI K wi m
variable {T} {K : PySem.W.Frag} {sc : Scope}
theorem DUB.e {e : Expr} {m : ME} (h : DUB T K sc e m) : DU T K sc e m := let ⟨te, a, b⟩ := h; ⟨te, fun X C hs hK => (a X C hs hK).1, b⟩
theorem DUB.t {e : Expr} {m : ME} (h : DUB T K sc e m) : DUT T K sc e (tst m) := let ⟨te, a, b⟩ := h; ⟨_, fun X C hs hK => (a X C hs hK).2, tst_ok b⟩
theorem cName_ok {x : Str} {pos : Pos} {m : ME} (hks : ∀ x v d, T.ks.lookup x = some (v, d) → Dp K (fun _ => none) v d) (h : cName T sc x = some m) : DU T K sc (.Name x pos) m := by
  unfold cName at h
  split at h
  · rename_i hk
    obtain ⟨k1, k2, k3⟩ := okNm_ok hk
    split at h
    · rename_i hv
      obtain ⟨i, hi, rfl⟩ := Option.map_eq_some_iff.mp h
      exact ⟨_, fun X C hs hK => pe_var (by rw [C.N]; exact idx_ok hi) (hs.vis hv) k1 k2, mVar_ok i⟩
    · split at h
      · rename_i hg
        obtain ⟨⟨v, d⟩, hd, h⟩ := Option.bind_eq_some_iff.mp h
        have hdp := hks x v d hd
        have pe : ∀ X, COk T X → ScOk X sc → X.K = K → PE X (.Name x pos) (tC v) := fun X C hs hK => by
          obtain ⟨u, a1, a2, a3⟩ := C.ks x v d hd
          exact pe_glob (hs.gl hg) a1 a2 k1
        split at h
        · rename_i z1 z2 hz
          cases h
          cases hz
          cases hdp
          exact ⟨_, pe, mC_ok (.str _) rfl⟩
        · rename_i z1 z2 hz
          cases h
          cases hz
          cases hdp
          exact ⟨_, pe, mC_ok (.int _) rfl⟩
        · rename_i hz
          cases h
          cases hz
          exact ⟨_, pe, mK_ok hdp⟩
      · cases h
  · cases h
theorem cConst_ok {k : Const} {j : Nat} {pos : Pos} {m : ME} (h : cConst k = some m) : DU T K sc (.Constant k j pos) m := by
  unfold cConst at h
  split at h
  · cases h; exact ⟨_, fun X C hs hK => pe_non, mC_ok .non rfl⟩
  · cases h; exact ⟨_, fun X C hs hK => pe_bl, mC_ok (.bl _) rfl⟩
  · cases h; exact ⟨_, fun X C hs hK => pe_int, mC_ok (.int _) rfl⟩
  · cases h; exact ⟨_, fun X C hs hK => pe_str, mC_ok (.str _) rfl⟩
  · cases h

/-! ### operators -/
def cBin : Operator → ME → ME → Option ME
  | .Add, a, b => some (mAdd a b)
  | .Sub, a, b => some (mBin dSub a b)
  | .Mult, a, b => some (mBin dMul a b)
  | .FloorDiv, a, b => some (mBin dFdiv a b)
  | .Mod, a, b => some (mBin dMod a b)
  | .Pow, a, b => some (mBin dPow a b)
  | .LShift, a, b => some (mBin dShl a b)
  | .RShift, a, b => some (mBin dShr a b)
  | .BitAnd, a, b => some (mBin dBand a b)
  | _, _, _ => none
theorem cBin_ok {a b : Expr} {op : Operator} {pos : Pos} {ma mb m : ME} (A : DU T K sc a ma) (B : DU T K sc b mb) (h : cBin op ma mb = some m) : DU T K sc (.BinOp a op b pos) m := by
  obtain ⟨ta, pa, sa⟩ := A
  obtain ⟨tb, pb, sb⟩ := B
  unfold cBin at h
  split at h
  · cases h; exact ⟨_, fun X C hs hK => pe_op op_addA (pa X C hs hK) (pb X C hs hK), mAdd_ok sa sb⟩
  · cases h; exact ⟨_, fun X C hs hK => pe_op op_sub (pa X C hs hK) (pb X C hs hK), mBin_ok os_sub sa sb⟩
  · cases h; exact ⟨_, fun X C hs hK => pe_op op_mul (pa X C hs hK) (pb X C hs hK), mBin_ok os_mul sa sb⟩
  · cases h; exact ⟨_, fun X C hs hK => pe_op op_fdiv (pa X C hs hK) (pb X C hs hK), mBin_ok os_fdiv sa sb⟩
  · cases h; exact ⟨_, fun X C hs hK => pe_op op_mod (pa X C hs hK) (pb X C hs hK), mBin_ok os_mod sa sb⟩
  · cases h; exact ⟨_, fun X C hs hK => pe_op op_pow (pa X C hs hK) (pb X C hs hK), mBin_ok os_pow sa sb⟩
  · cases h; exact ⟨_, fun X C hs hK => pe_op op_shl (pa X C hs hK) (pb X C hs hK), mBin_ok os_shl sa sb⟩
  · cases h; exact ⟨_, fun X C hs hK => pe_op op_shr (pa X C hs hK) (pb X C hs hK), mBin_ok os_shr sa sb⟩
  · cases h; exact ⟨_, fun X C hs hK => pe_op op_and (pa X C hs hK) (pb X C hs hK), mBin_ok os_band sa sb⟩
  · cases h
def cmpD : CmpOp → D → D → Option D
  | .Eq => dEq
  | .NotEq => dNe
  | .Lt => dLt
  | .LtE => dLe
  | .Gt => dGt
  | .GtE => dGe
  | .Is => dIs
  | .IsNot => dIsNot
  | .In => dIn false
  | .NotIn => dIn true
def cmpR (K : PySem.W.Frag) : CmpOp → R2
  | .Eq => rEqD K
  | .NotEq => rNeD K
  | .Lt => rI0 fun i j => .bl (decide (i < j))
  | .LtE => rI0 fun i j => .bl (decide (i ≤ j))
  | .Gt => rI0 fun i j => .bl (decide (j < i))
  | .GtE => rI0 fun i j => .bl (decide (j ≤ i))
  | .Is => rIsA
  | .IsNot => rIsNA
  | .In => rInA K
  | .NotIn => rNotInA K
theorem cmp_op {X : Cx} (C : COk T X) (hK : X.K = K) (op : CmpOp) : OpR X (compareOp op) (cmpR K op) := by
  subst hK
  have h1 : X.A.units + 64 < cLine := by have := C.un; omega
  cases op
  · exact op_eqD h1
  · exact op_neD h1
  · exact op_lt
  · exact op_le
  · exact op_gt
  · exact op_ge
  · exact op_isA
  · exact op_isNA
  · exact op_inA C.un
  · exact op_notInA C.un
theorem cmp_os (op : CmpOp) : OpS K (cmpR K op) (cmpD op) := by
  cases op
  · exact os_eq
  · exact os_ne
  · exact os_lt
  · exact os_le
  · exact os_gt
  · exact os_ge
  · exact os_is
  · exact os_isNot
  · exact os_in
  · exact os_notIn
theorem cmp1_ok {a b : Expr} {op : CmpOp} {pos : Pos} {ma mb : ME} (A : DU T K sc a ma) (B : DU T K sc b mb) (h : notSet b = true) : DUB T K sc (.Compare a [op] [b] pos) (mBin (cmpD op) ma mb) := by
  obtain ⟨ta, pa, sa⟩ := A
  obtain ⟨tb, pb, sb⟩ := B
  exact ⟨_, fun X C hs hK => ⟨pe_cmpR (cmp_op C hK op) (pa X C hs hK) (pb X C hs hK) (marks_no h), pt_cmpR (cmp_op C hK op) (pa X C hs hK) (pb X C hs hK) (marks_no h)⟩, mBin_ok (cmp_os op) sa sb⟩
theorem cmp2_ok {a b d : Expr} {op op' : CmpOp} {pos : Pos} {ma mb md : ME} (A : DU T K sc a ma) (B : DU T K sc b mb) (D0 : DU T K sc d md) (h : notSet d = true) : DUB T K sc (.Compare a [op, op'] [b, d] pos) (mChain (cmpD op) (cmpD op') ma mb md) := by
  obtain ⟨ta, pa, sa⟩ := A
  obtain ⟨tb, pb, sb⟩ := B
  obtain ⟨td, pd, sd⟩ := D0
  exact ⟨_, fun X C hs hK => ⟨pe_chain (cmp_op C hK op) (cmp_op C hK op') (pa X C hs hK) (pb X C hs hK) (pd X C hs hK) (last_no h), pt_chain (cmp_op C hK op) (cmp_op C hK op') (pa X C hs hK) (pb X C hs hK) (pd X C hs hK) (last_no h)⟩, mChain_ok (cmp_os op) (cmp_os op') sa sb sd⟩

/-! ### rows of expressions -/
def cList (f : Expr → Option ME) : List Expr → Option (List ME)
  | [] => some []
  | e :: es => if notStar e = true then (f e).bind fun m => (cList f es).map (m :: ·) else none
def mkEs : List ME → MEs
  | [] => eNil
  | m :: ms => eCons m (mkEs ms)
def mkRs : List ME → MRs
  | [] => rNil
  | m :: ms => rCons m (mkRs ms)
theorem cList_ok {f : Expr → Option ME} (hf : ∀ e m, f e = some m → DU T K sc e m) : ∀ {es : List Expr} {ms : List ME}, cList f es = some ms →
    es.all notStar = true ∧ ∃ t, (∀ X, COk T X → ScOk X sc → X.K = K → PA X es t) ∧ SA K t (mkEs ms) ∧ SR K t (mkRs ms)
  | [], ms, h => by cases h; exact ⟨rfl, tNil, fun _ _ _ _ => pa_nil, eNil_ok, rNil_ok⟩
  | e :: es, ms, h => by
    unfold cList at h
    split at h
    · rename_i hs
      obtain ⟨m, h1, h⟩ := Option.bind_eq_some_iff.mp h
      obtain ⟨ms', h2, rfl⟩ := Option.map_eq_some_iff.mp h
      obtain ⟨te, pe, se⟩ := hf e m h1
      obtain ⟨a, t, pt, sa, sr⟩ := cList_ok hf h2
      exact ⟨by rw [List.all_cons, hs, a]; rfl, _, fun X C hs' hK => pa_cons (pe X C hs' hK) (pt X C hs' hK) (star1 hs), eCons_ok se sa, rCons_ok se sr⟩
    · cases h
theorem cList_len {f : Expr → Option ME} : ∀ {es : List Expr} {ms : List ME}, cList f es = some ms → es.length = ms.length
  | [], ms, h => by cases h; rfl
  | e :: es, ms, h => by
    unfold cList at h
    split at h
    · obtain ⟨m, h1, h⟩ := Option.bind_eq_some_iff.mp h
      obtain ⟨ms', h2, rfl⟩ := Option.map_eq_some_iff.mp h
      simp [cList_len h2]
    · cases h
/-- and, or of values -/
def mBools (op : BoolOp) : ME → List ME → ME
  | m, [] => m
  | m, m' :: ms => match op with
    | .And => mAnd m (mBools op m' ms)
    | .Or => mOr m (mBools op m' ms)
theorem bools_ok {f : Expr → Option ME} (hf : ∀ e m, f e = some m → DU T K sc e m) {op : BoolOp} {pos : Pos} : ∀ {es : List Expr} {e : Expr} {m : ME} {ms : List ME}, f e = some m → cList f es = some ms → DU T K sc (.BoolOp op (e :: es) pos) (mBools op m ms)
  | [], e, m, ms, h, h' => by
    cases h'
    obtain ⟨te, pe, se⟩ := hf e m h
    exact ⟨te, fun X C hs hK => pe_one (pe X C hs hK), se⟩
  | e' :: es, e, m, ms, h, h' => by
    unfold cList at h'
    split at h'
    · obtain ⟨m', h1, h'⟩ := Option.bind_eq_some_iff.mp h'
      obtain ⟨ms', h2, rfl⟩ := Option.map_eq_some_iff.mp h'
      obtain ⟨te, pe, se⟩ := hf e m h
      obtain ⟨tr, pr, sr⟩ := bools_ok hf (op := op) (pos := pos) h1 h2
      cases op with
      | And => exact ⟨_, fun X C hs hK => pe_and (pe X C hs hK) (pr X C hs hK), mAnd_ok se sr⟩
      | Or => exact ⟨_, fun X C hs hK => pe_or (pe X C hs hK) (pr X C hs hK), mOr_ok se sr⟩
    · cases h'
def mtBools (op : BoolOp) : MT → List MT → MT
  | m, [] => m
  | m, m' :: ms => match op with
    | .And => mtAnd m (mtBools op m' ms)
    | .Or => mtOr m (mtBools op m' ms)
def cListT (f : Expr → Option MT) : List Expr → Option (List MT)
  | [] => some []
  | e :: es => (f e).bind fun m => (cListT f es).map (m :: ·)
theorem boolsT_ok {f : Expr → Option MT} (hf : ∀ e m, f e = some m → DUT T K sc e m) {op : BoolOp} {pos : Pos} : ∀ {es : List Expr} {e : Expr} {m : MT} {ms : List MT}, f e = some m → cListT f es = some ms →
    ∃ tt, (∀ X, COk T X → ScOk X sc → X.K = K → PW X (.BoolOp op (e :: es) pos) tt) ∧ ST K tt (mtBools op m ms)
  | [], e, m, ms, h, h' => by
    cases h'
    obtain ⟨te, pe, se⟩ := hf e m h
    cases op with
    | And => exact ⟨te, fun X C hs hK => pw_and1 (pe X C hs hK), se⟩
    | Or => exact ⟨te, fun X C hs hK => pw_or1 (pe X C hs hK), se⟩
  | e' :: es, e, m, ms, h, h' => by
    unfold cListT at h'
    obtain ⟨m', h1, h'⟩ := Option.bind_eq_some_iff.mp h'
    obtain ⟨ms', h2, rfl⟩ := Option.map_eq_some_iff.mp h'
    obtain ⟨te, pe, se⟩ := hf e m h
    obtain ⟨tr, pr, sr⟩ := boolsT_ok hf (op := op) (pos := pos) h1 h2
    cases op with
    | And => exact ⟨_, fun X C hs hK => pw_and (pe X C hs hK) (pr X C hs hK), mtAnd_ok se sr⟩
    | Or => exact ⟨_, fun X C hs hK => pw_or (pe X C hs hK) (pr X C hs hK), mtOr_ok se sr⟩

/-! ### targets -/
def cTg (T : CT) (sc : Scope) : Nat → Expr → Option Tg
  | 0, _ => none
  | _ + 1, .Name x _ => if locB sc x = true then (idx T.N x).map .nm else none
  | n + 1, .Tuple es _ _ => (es.mapM (cTg T sc n)).map .tup
  | _, _ => none
mutual
def gOf (K : PySem.W.Frag) : Tg → TG
  | .nm i => gName i
  | .tup ts => gTup K ts.length (gsOf K ts)
def gsOf (K : PySem.W.Frag) : List Tg → TGs
  | [] => gNil
  | t :: ts => gCons (gOf K t) (gsOf K ts)
end
theorem asn1 {e : Expr} {es : List Expr} {env : Env} (h : notStar e = true) : (assignEach (e :: es) env).map (·.2) = assign e env :: (assignEach es env).map (·.2) := by
  cases e <;> first | rfl | cases h
theorem asnAll {env : Env} : ∀ {es : List Expr}, es.all notStar = true → (assignEach es env).length = es.length ∧ (assignEach es env).findIdx? (·.1) = none
  | [], _ => ⟨rfl, rfl⟩
  | e :: es, h => by
    rw [List.all_cons, Bool.and_eq_true] at h
    have e1 : assignEach (e :: es) env = (false, assign e env) :: assignEach es env := by
      have h' := h.1
      cases e <;> first | rfl | cases h'
    obtain ⟨a, b⟩ := asnAll (env := env) h.2
    rw [e1]
    refine ⟨by simp [a], ?_⟩
    rw [List.findIdx?_cons, b]; rfl
theorem cTg_star {n : Nat} {tg : Expr} {t : Tg} (h : cTg T sc n tg = some t) : notStar tg = true := by
  cases n with
  | zero => unfold cTg at h; cases h
  | succ n =>
    unfold cTg at h
    split at h
    · cases h
    · rfl
    · rfl
    · cases h
theorem cTg_ok : ∀ {n : Nat} {tg : Expr} {t : Tg}, cTg T sc n tg = some t → (∀ X, COk T X → ScOk X sc → X.K = K → PG X tg (gOf K t)) ∧ SG (gOf K t) t.slots (bindT t)
  | 0, _, _, h => by unfold cTg at h; cases h
  | n + 1, tg, t, h => by
    unfold cTg at h
    split at h
    · cases h
    · rename_i x pos heq
      cases heq
      split at h
      · rename_i hl
        obtain ⟨i, hi, rfl⟩ := Option.map_eq_some_iff.mp h
        refine ⟨fun X C hs hK => ?_, sg_name i⟩
        exact pg_name C.nd (by rw [C.N]; exact idx_ok hi) (hs.loc hl).1 (hs.loc hl).2
      · cases h
    · rename_i n' es k pos heq1
      cases heq1
      obtain ⟨ts, h1, rfl⟩ := Option.map_eq_some_iff.mp h
      have all : ∀ {es : List Expr} {ts : List Tg}, es.mapM (cTg T sc n) = some ts → (∀ X, COk T X → ScOk X sc → X.K = K → PGs X es (gsOf K ts)) ∧ SGs (gsOf K ts) (slotsL ts) (bindTs ts) ∧ es.length = ts.length ∧ es.all notStar = true := by
        intro es
        induction es with
        | nil =>
          intro ts h
          simp at h
          subst h
          exact ⟨fun _ _ _ _ => by unfold gsOf; exact pgs_nil, by unfold gsOf slotsL; exact sgs_nil, rfl, rfl⟩
        | cons e es ih =>
          intro ts h
          simp only [List.mapM_cons] at h
          obtain ⟨t, ht, h⟩ := Option.bind_eq_some_iff.mp h
          obtain ⟨ts', hts, h⟩ := Option.bind_eq_some_iff.mp h
          cases h
          obtain ⟨p1, s1⟩ := cTg_ok ht
          obtain ⟨p2, s2, l2, n2⟩ := ih hts
          refine ⟨fun X C hs hK => ?_, ?_, by simp [l2], by rw [List.all_cons, cTg_star ht, n2]; rfl⟩
          · unfold gsOf; exact pgs_cons (p1 X C hs hK) (p2 X C hs hK) (asn1 (cTg_star ht))
          · unfold gsOf slotsL; exact sgs_cons s1 s2
      obtain ⟨p, s, l, ns⟩ := all h1
      refine ⟨fun X C hs hK => ?_, ?_⟩
      · subst hK
        unfold gOf
        rw [← l]
        exact pg_tup C.calm (p X C hs rfl) (asnAll ns).1 (asnAll ns).2
      · unfold gOf Tg.slots
        exact sg_tup rfl s
    · cases h
end
end DL
end
section
set_option maxHeartbeats 4000000
/-! DL12: the compiler of expressions. -/
namespace DL
open PySem PySem.Spec PyProof.Rows L2

/-! ### built-in calls -/
/-- a built-in function or type of one argument that gives a scalar -/
def b1Of (f : Str) : Option (D → Option D) :=
  if f = "len" then some dLen else if f = "sum" then some dSum else if f = "any" then some dAny else if f = "all" then some dAll else if f = "int" then some dInt else none
def tyNm (f : Str) : Option String :=
  if f = "int" then some "int" else if f = "bool" then some "bool" else if f = "list" then some "list" else if f = "tuple" then some "tuple" else if f = "str" then some "str" else none
section
variable {T : CT} {K : PySem.W.Frag} {sc : Scope}
theorem b1_ok {f : Str} {op : D → Option D} {a : Expr} {p pos : Pos} {m : ME} (hf : b1Of f = some op) (hn : okNm f = true) (hg : glB sc f = true) (hb : f ∈ T.bs) (ha : notStar a = true) (A : DU T K sc a m) :
    DU T K sc (.Call (.Name f p) [a] [] pos) (mUn op m) := by
  obtain ⟨te, pe, se⟩ := A
  obtain ⟨k1, k2, k3⟩ := okNm_ok hn
  unfold b1Of at hf
  split at hf
  · rename_i e; subst e; cases hf
    exact ⟨_, fun X C hs hK => by subst hK; exact pe_callB call_len (hs.gl hg) (C.bs _ hb) PySem.boot_len (pa_cons (pe X C hs rfl) pa_nil (star1 ha)) k3 k1 (star1 ha) rfl, mCall1_ok (K := K) c1_len se⟩
  · split at hf
    · rename_i e; subst e; cases hf
      exact ⟨tCB (rSum K) (tCons te tNil), fun X C hs hK => hK ▸ pe_callB (cr_sum C.calm) (hs.gl hg) (C.bs _ hb) boot_sum (pa_cons (pe X C hs hK) pa_nil (star1 ha)) k3 k1 (star1 ha) rfl, mCall1_ok (K := K) c1_sum se⟩
    · split at hf
      · rename_i e; subst e; cases hf
        exact ⟨tCB (rAny K) (tCons te tNil), fun X C hs hK => hK ▸ pe_callB (cr_any C.calm) (hs.gl hg) (C.bs _ hb) boot_any (pa_cons (pe X C hs hK) pa_nil (star1 ha)) k3 k1 (star1 ha) rfl, mCall1_ok (K := K) c1_any se⟩
      · split at hf
        · rename_i e; subst e; cases hf
          exact ⟨tCB (rAll K) (tCons te tNil), fun X C hs hK => hK ▸ pe_callB (cr_all C.calm) (hs.gl hg) (C.bs _ hb) boot_all (pa_cons (pe X C hs hK) pa_nil (star1 ha)) k3 k1 (star1 ha) rfl, mCall1_ok (K := K) c1_all se⟩
        · split at hf
          · rename_i e; subst e; cases hf
            exact ⟨_, fun X C hs hK => pe_callTy call_int1 (hs.gl hg) (C.bs _ hb) boot_int (pa_cons (pe X C hs hK) pa_nil (star1 ha)) k3 k1 (star1 ha) rfl, mCall1_ok (K := K) c1_int se⟩
          · cases hf
theorem list_ok {a : Expr} {p pos : Pos} {m : ME} (hg : glB sc "list" = true) (hb : ("list" : Str) ∈ T.bs) (ha : notStar a = true) (A : DU T K sc a m) :
    DU T K sc (.Call (.Name "list" p) [a] [] pos) (mList m) := by
  obtain ⟨te, pe, se⟩ := A
  exact ⟨_, fun X C hs hK => by subst hK; exact pe_callTy call_list_of (hs.gl hg) (C.bs _ hb) boot_list (pa_cons (pe X C hs rfl) pa_nil (star1 ha)) (by decide) (by decide) (star1 ha) rfl, mList_ok se⟩
theorem boot_ty {f : Str} {t : String} (h : tyNm f = some t) : bootBuiltins f = some (.type t) := by
  unfold tyNm at h
  split at h
  · rename_i e; subst e; cases h; exact boot_int
  · split at h
    · rename_i e; subst e; cases h; exact boot_bool
    · split at h
      · rename_i e; subst e; cases h; exact boot_list
      · split at h
        · rename_i e; subst e; cases h; exact boot_tuple
        · split at h
          · rename_i e; subst e; cases h; exact boot_str
          · cases h
theorem isi_ok {a : Expr} {f : Str} {t : String} {p p2 pos : Pos} {m : ME} (ht : tyNm f = some t) (hn : okNm f = true) (hg : glB sc "isinstance" = true) (hb : ("isinstance" : Str) ∈ T.bs) (hg2 : glB sc f = true) (hb2 : f ∈ T.bs) (ha : notStar a = true) (A : DU T K sc a m) :
    DU T K sc (.Call (.Name "isinstance" p) [a, .Name f p2] [] pos) (mUn (dIsi t) m) := by
  obtain ⟨te, pe, se⟩ := A
  obtain ⟨k1, k2, k3⟩ := okNm_ok hn
  refine ⟨_, fun X C hs hK => ?_, mIsi_ok (K := K) se⟩
  subst hK
  have P2 : PE X (.Name f p2) (tC (.ty t)) := pe_bltn (hs.gl hg2) (C.bs _ hb2) (boot_ty ht) rfl k3 k1
  exact pe_callB call_isi (hs.gl hg) (C.bs _ hb) boot_isinstance (pa_cons (pe X C hs rfl) (pa_cons P2 pa_nil) (star1 ha)) (by decide) (by decide) (star1 ha) rfl

/-! ### receivers -/
def recv : Expr → Bool
  | .Name .. => true
  | .Call (.Name ..) (_ :: _) _ _ => true
  | _ => false
theorem recv_base {o : Expr} {m : Str} {env : Env} (h : recv o = true) : attributeBase o m env (eval o env) = eval o env := by
  unfold recv at h
  split at h
  · rfl
  · rfl
  · cases h
theorem few_all {env : Env} {cpos : Pos} : ∀ {args : List Expr}, args.all notStar = true → (backTo cpos (starEach args env)).all (fun x => !x.1) = true
  | [], _ => rfl
  | e :: es, h => by
    rw [List.all_cons, Bool.and_eq_true] at h
    rw [star1 h.1]
    show (true && (backTo cpos (starEach es env)).all (fun x => !x.1)) = true
    rw [few_all h.2]; rfl
abbrev plOf (o : Expr) (env : Env) : Sem Bool := do return (← importBound o env).getD true
theorem meth_eq {o : Expr} {m : Str} {apos pos : Pos} {args : List Expr} {env : Env} (hr : recv o = true) (hs : args.all notStar = true) (hn : args.length < 30) (hl : (apos.endLine == pos.line) = true) :
    eval (.Call (.Attribute o m apos) args [] pos) env = (do
      let ov ← eval o env
      standAt apos.atName
      let (f, first) ← holding [ov] (getMethod ov m (plOf o env))
      callWith pos f first (backTo pos (starEach args env)) (backToKw pos (keywordEach [] env))) := by
  have hfew : methodCallForm (args.length + ([] : List Keyword).length) (backTo pos (starEach args env)) (backToKw pos (keywordEach [] env)) = true := by
    unfold methodCallForm
    rw [few_all hs]
    show (true && true && decide (args.length + 0 + 0 < 30)) = true
    rw [decide_eq_true (by omega)]; rfl
  rw [arm_eval_Call, recv_base hr]
  congr 1
  funext ov
  congr 1
  funext _
  unfold methodCall
  rw [hfew]
  unfold calleeOf methodCallPos
  rw [hl]
  rfl
/-! ### the compiler -/
def ownOf (N : List Str) (t : Tg) : List (Str × Nat) := t.slots.map fun i => (N.getD i "", i)
theorem ownOf_snd (N : List Str) (t : Tg) : (ownOf N t).map (·.2) = t.slots := by
  unfold ownOf; rw [List.map_map]; exact List.map_id _
mutual
def cE (T : CT) : Nat → Scope → Expr → Option ME
  | 0, _, _ => none
  | n + 1, sc, e => match e with
    | .Name x _ => cName T sc x
    | .Constant k _ _ => cConst k
    | .BinOp a op b _ => (cE T n sc a).bind fun a' => (cE T n sc b).bind fun b' => cBin op a' b'
    | .UnaryOp .USub a _ => (cE T n sc a).map (mUn dNeg)
    | .UnaryOp .Not a _ => (cE T n sc a).map mNot
    | .BoolOp op (x :: xs) _ => (cE T n sc x).bind fun m => (cList (cE T n sc) xs).map (mBools op m)
    | .Compare a ops cs _ => cCmp T n sc a ops cs
    | .Attribute (.Name x _) f _ => (cName T sc x).map (mFld T.fl f)
    | .Call (.Attribute o m apos) args [] pos => if recv o = true ∧ args.length < 30 ∧ (apos.endLine == pos.line) = true then (T.mts.lookup m).bind fun p => (cE T n sc o).bind fun o' => (cList (cE T n sc) args).map fun as => mMeth p.1 m p.2 o' (mkRs as) else none
    | .Subscript a (.Slice lo hi none _) _ => (cE T n sc a).bind fun a' => (cO T n sc lo).bind fun l => (cO T n sc hi).map fun h => mSl a' l h
    | .Subscript a b _ => if notSlice b = true then (cE T n sc a).bind fun a' => (cE T n sc b).map fun b' => mIx a' b' else none
    | .Tuple es _ _ => (cList (cE T n sc) es).map fun ms => mTup (mkEs ms)
    | .List es _ => (cList (cE T n sc) es).map fun ms => mLst (mkEs ms)
    | .ListComp elt [⟨tg, iter, ifs, ia⟩] scope _ => if ia = 0 ∧ notSet iter = true then
        (cI T n sc tg iter).bind fun src => (cTg T scope n tg).bind fun t => (cIfs T n scope ifs).bind fun tt => (cE T n scope elt).bind fun te =>
          if blkC T.N sc scope (ownOf T.N t) = true then some (mLc src t tt te t.slots) else none
      else none
    | .Call (.Name f _) args [] _ => if okNm f = true ∧ glB sc f = true then
        (match T.fs.lookup f with
        | some (F, ms) => (cList (cE T n sc) args).map fun as => mCall F ms (mkRs as)
        | none => if T.bs.contains f = true then (match args with
          | [a] => if notStar a = true then (cE T n sc a).bind fun m => if f = "list" then some (mList m) else (b1Of f).map fun op => mUn op m else none
          | [a, .Name t _] => if notStar a = true ∧ f = "isinstance" ∧ okNm t = true ∧ glB sc t = true ∧ T.bs.contains t = true then (cE T n sc a).bind fun m => (tyNm t).map fun ty => mUn (dIsi ty) m else none
          | _ => none) else none)
      else none
    | _ => none
def cCmp (T : CT) : Nat → Scope → Expr → List CmpOp → List Expr → Option ME
  | 0, _, _, _, _ => none
  | n + 1, sc, a, ops, cs => match ops, cs with
    | [op], [b] => if notSet b = true then (cE T n sc a).bind fun a' => (cE T n sc b).map fun b' => mBin (cmpD op) a' b' else none
    | [op, op'], [b, d] => if notSet d = true then (cE T n sc a).bind fun a' => (cE T n sc b).bind fun b' => (cE T n sc d).map fun d' => mChain (cmpD op) (cmpD op') a' b' d' else none
    | _, _ => none
def cO (T : CT) : Nat → Scope → Option Expr → Option MO
  | _, _, none => some oNone
  | 0, _, some _ => none
  | n + 1, sc, some e => (cE T n sc e).map oSome
def cT (T : CT) : Nat → Scope → Expr → Option MT
  | 0, _, _ => none
  | n + 1, sc, e => match e with
    | .UnaryOp .Not a _ => (cT T n sc a).map mtNot
    | .BoolOp op (x :: xs) _ => (cT T n sc x).bind fun m => (cListT (cT T n sc) xs).map (mtBools op m)
    | .Compare a ops cs _ => (cCmp T n sc a ops cs).map tst
    | e => if plainT e = true then (cE T n sc e).map tst else none
def cIfs (T : CT) : Nat → Scope → List Expr → Option MT
  | _, _, [] => some mtYes
  | 0, _, _ => none
  | n + 1, sc, [c] => cT T n sc c
  | _, _, _ => none
def cI (T : CT) : Nat → Scope → Expr → Expr → Option MI
  | 0, _, _, _ => none
  | n + 1, sc, tg, iter => match iter with
    | .Call (.Name f p) args [] pos => if okNm f = true ∧ glB sc f = true ∧ T.bs.contains f = true ∧ (f = "range" ∨ f = "enumerate" ∨ f = "zip" ∨ f = "reversed") then
        (cList (cE T n sc) args).bind fun ms => match args, ms, tg with
          | [_], [a], .Tuple _ _ _ => if f = "range" then some (iRg1 a) else if f = "enumerate" then some (iEn a) else if f = "reversed" then some (iRv a) else none
          | [_], [a], _ => if f = "range" then some (iRg1 a) else if f = "reversed" then some (iRv a) else none
          | [_, _], [a, b], .Tuple _ _ _ => if f = "range" then some (iRg2 a b) else if f = "zip" then some (iZp a b) else none
          | [_, _], [a, b], _ => if f = "range" then some (iRg2 a b) else none
          | [_, _, _], [a, b, d], _ => if f = "range" then some (iRg3 a b d) else none
          | _, _, _ => none
        else (cE T n sc (.Call (.Name f p) args [] pos)).map iSeq
    | e => (cE T n sc e).map iSeq
end
end
end DL
end
section
set_option maxHeartbeats 8000000
/-! DL13: the compiler of expressions is right. -/
namespace DL
open PySem PySem.Spec PyProof.Rows L2

structure AllOk (T : CT) (K : PySem.W.Frag) (n : Nat) : Prop where
  e : ∀ sc e m, cE T n sc e = some m → DU T K sc e m
  c : ∀ sc a ops cs m, cCmp T n sc a ops cs = some m → ∀ pos, DUB T K sc (.Compare a ops cs pos) m
  o : ∀ sc o m, cO T n sc o = some m → ∃ t, (∀ X, COk T X → ScOk X sc → X.K = K → PO X o t) ∧ SO K t m
  t : ∀ sc e m, cT T n sc e = some m → DUT T K sc e m
  f : ∀ sc ifs m, cIfs T n sc ifs = some m → ∃ tt, (∀ X, COk T X → ScOk X sc → X.K = K → PTs X ifs tt) ∧ ST K tt m
  i : ∀ sc tg iter m, cI T n sc tg iter = some m → notSet iter = true → DUI T K sc tg iter m
section
variable {T : CT} {K : PySem.W.Frag}
theorem cO_none {T : CT} {n : Nat} {sc : Scope} : cO T n sc none = some oNone := by cases n <;> rfl
theorem cIfs_nil {T : CT} {n : Nat} {sc : Scope} : cIfs T n sc [] = some mtYes := by cases n <;> rfl
theorem all_zero : AllOk T K 0 := by
  refine ⟨fun sc e m h => (by unfold cE at h; cases h), fun sc a ops cs m h => (by unfold cCmp at h; cases h), fun sc o m h => ?_, fun sc e m h => (by unfold cT at h; cases h), fun sc ifs m h => ?_, fun sc tg iter m h => (by unfold cI at h; cases h)⟩
  · cases o with
    | none => rw [cO_none] at h; cases h; exact ⟨_, fun _ _ _ _ => po_none, oNone_ok⟩
    | some e => unfold cO at h; cases h
  · cases ifs with
    | nil => rw [cIfs_nil] at h; cases h; exact ⟨_, fun _ _ _ _ => pts_nil, mtYes_ok⟩
    | cons a r => cases r <;> (unfold cIfs at h; cases h)
theorem iSeq_du {sc : Scope} {tg e : Expr} {m : ME} (h : DU T K sc e m) : DUI T K sc tg e (iSeq m) := by
  obtain ⟨te, pe, se⟩ := h
  exact ⟨_, fun X C hs hK => by subst hK; exact pi_any (pe X C hs rfl), iSeq_ok se⟩
theorem all_succ (hks : TOk T K) {n : Nat} (ih : AllOk T K n) : AllOk T K (n + 1) := by
  refine ⟨fun sc e m h => ?_, fun sc a ops cs m h pos => ?_, fun sc o m h => ?_, fun sc e m h => ?_, fun sc ifs m h => ?_, fun sc tg iter m h hns => ?_⟩
  · unfold cE at h
    split at h
    · exact cName_ok hks.ks h
    · exact cConst_ok h
    · obtain ⟨a', ha, h⟩ := Option.bind_eq_some_iff.mp h
      obtain ⟨b', hb, h⟩ := Option.bind_eq_some_iff.mp h
      exact cBin_ok (ih.e _ _ _ ha) (ih.e _ _ _ hb) h
    · obtain ⟨a', ha, rfl⟩ := Option.map_eq_some_iff.mp h
      obtain ⟨te, pe, se⟩ := ih.e _ _ _ ha
      exact ⟨_, fun X C hs hK => pe_un un_neg (pe X C hs hK), mUn_ok us_neg se⟩
    · obtain ⟨a', ha, rfl⟩ := Option.map_eq_some_iff.mp h
      obtain ⟨te, pe, se⟩ := ih.e _ _ _ ha
      exact ⟨_, fun X C hs hK => pe_not (pe X C hs hK), mNot_ok se⟩
    · obtain ⟨m1, h1, h⟩ := Option.bind_eq_some_iff.mp h
      obtain ⟨ms, h2, rfl⟩ := Option.map_eq_some_iff.mp h
      exact bools_ok (fun e m h => ih.e _ e m h) h1 h2
    · exact (ih.c _ _ _ _ _ h _).e
    · rename_i x px f fp
      obtain ⟨a', ha, rfl⟩ := Option.map_eq_some_iff.mp h
      obtain ⟨te, pe, se⟩ := cName_ok (pos := px) hks.ks ha
      exact ⟨_, fun X C hs hK => by subst hK; exact pe_fld (pe X C hs rfl) rfl, mFld_ok hks.fl se⟩
    · split at h
      · rename_i o m apos args pos hc
        obtain ⟨hr, hn, hl⟩ := hc
        obtain ⟨⟨tab, ms⟩, hT, h⟩ := Option.bind_eq_some_iff.mp h
        obtain ⟨o', ho, h⟩ := Option.bind_eq_some_iff.mp h
        obtain ⟨as, ha, rfl⟩ := Option.map_eq_some_iff.mp h
        obtain ⟨te, pe, se⟩ := ih.e _ _ _ ho
        obtain ⟨hst, t, pt, _, sr⟩ := cList_ok (fun e m h => ih.e _ e m h) ha
        cases args with
        | nil =>
          cases ha
          refine ⟨tMethA (TabS K tab) m E0 te tNil, fun X C hs hK => ?_, mMeth_ok se rNil_ok⟩
          subst hK
          obtain ⟨k, F1, F2⟩ := C.mt m tab ms hT
          exact pe_methA0 (pe X C hs rfl) F1 F2 (meth_eq hr hst hn hl)
        | cons a as =>
          refine ⟨tMethA (TabS K tab) m E0 te t, fun X C hs hK => ?_, mMeth_ok se sr⟩
          subst hK
          obtain ⟨k, F1, F2⟩ := C.mt m tab ms hT
          have hst' := hst
          rw [List.all_cons, Bool.and_eq_true] at hst'
          exact pe_methA (pe X C hs rfl) F1 F2 (pt X C hs rfl) (star1 hst'.1) (stars hst'.2) (meth_eq hr hst hn hl)
      · cases h
    · obtain ⟨a', ha, h⟩ := Option.bind_eq_some_iff.mp h
      obtain ⟨l, hl, h⟩ := Option.bind_eq_some_iff.mp h
      obtain ⟨u, hu, rfl⟩ := Option.map_eq_some_iff.mp h
      obtain ⟨te, pe, se⟩ := ih.e _ _ _ ha
      obtain ⟨tl, pl, sl⟩ := ih.o _ _ _ hl
      obtain ⟨tu, pu, su⟩ := ih.o _ _ _ hu
      exact ⟨_, fun X C hs hK => by subst hK; exact pe_slice sl_any (pe X C hs rfl) (pl X C hs rfl) (pu X C hs rfl), mSl_ok se sl su⟩
    · split at h
      · rename_i hsl
        obtain ⟨a', ha, h⟩ := Option.bind_eq_some_iff.mp h
        obtain ⟨b', hb, rfl⟩ := Option.map_eq_some_iff.mp h
        obtain ⟨te, pe, se⟩ := ih.e _ _ _ ha
        obtain ⟨tb, pb, sb⟩ := ih.e _ _ _ hb
        exact ⟨_, fun X C hs hK => by subst hK; exact pe_ix ix_seq (pe X C hs rfl) (pb X C hs rfl) (plain_ix hsl), mIx_ok se sb⟩
      · cases h
    · obtain ⟨ms, hm, rfl⟩ := Option.map_eq_some_iff.mp h
      obtain ⟨_, t, pt, sa, _⟩ := cList_ok (fun e m h => ih.e _ e m h) hm
      exact ⟨_, fun X C hs hK => pe_tup (pt X C hs hK), mTup_ok sa⟩
    · obtain ⟨ms, hm, rfl⟩ := Option.map_eq_some_iff.mp h
      obtain ⟨_, t, pt, sa, _⟩ := cList_ok (fun e m h => ih.e _ e m h) hm
      exact ⟨_, fun X C hs hK => pe_lst (pt X C hs hK), mLst_ok sa⟩
    · split at h
      · rename_i scope pos0 hc
        obtain ⟨hc0, hcs⟩ := hc
        subst hc0
        obtain ⟨src, h1, h⟩ := Option.bind_eq_some_iff.mp h
        obtain ⟨t, h2, h⟩ := Option.bind_eq_some_iff.mp h
        obtain ⟨tt, h3, h⟩ := Option.bind_eq_some_iff.mp h
        obtain ⟨te, h4, h⟩ := Option.bind_eq_some_iff.mp h
        split at h
        · rename_i hb
          cases h
          obtain ⟨wi, pi, si⟩ := ih.i _ _ _ _ h1 hcs
          obtain ⟨pg, sg⟩ := cTg_ok (K := K) h2
          obtain ⟨t0, pf, sf⟩ := ih.f _ _ _ h3
          obtain ⟨te0, pe, se⟩ := ih.e _ _ _ h4
          refine ⟨_, fun X C hs hK => ?_, mLc_ok si sg (fun j hj => hj) sf se⟩
          subst hK
          have q := pe_lc (X := X) (pos := pos0) (own := ownOf T.N t) (g := gOf X.K t) (tt := t0) (te := te0) C.calm C.nd (pi_len (pi X C hs rfl)) (hs.own (blkOk_by (by rw [C.N]; exact hb)))
            (fun s H C' cl fp => pg (X.blk s H scope (compEnvC scope cl C' X.env) fp) (C.blk s H scope _ fp) ScOk.blk rfl)
            (fun s H C' cl fp => pf (X.blk s H scope (compEnvC scope cl C' X.env) fp) (C.blk s H scope _ fp) ScOk.blk rfl)
            (fun s H C' cl fp => pe (X.blk s H scope (compEnvC scope cl C' X.env) fp) (C.blk s H scope _ fp) ScOk.blk rfl)
            (folded_no hcs)
          rw [ownOf_snd] at q
          exact q
        · cases h
      · cases h
    · split at h
      · rename_i f p args pos hc
        obtain ⟨hn, hg⟩ := hc
        obtain ⟨k1, k2, k3⟩ := okNm_ok hn
        split at h
        · rename_i F ms hF
          obtain ⟨as, ha, rfl⟩ := Option.map_eq_some_iff.mp h
          obtain ⟨hst, t, pt, _, sr⟩ := cList_ok (fun e m h => ih.e _ e m h) ha
          by_cases hcl : f ∈ T.cls
          · obtain ⟨C0, hC0⟩ := hks.cls f hcl
            have same : ∀ C', ClsAt K f C' → C' = C0 := fun C' z => by
              have := hC0.symm.trans z
              cases this; rfl
            cases args with
            | nil =>
              cases ha
              refine ⟨tMake C0 (spI K f F) [] E0 tNil, fun X C hs hK => ?_, mMake_ok hC0 rNil_ok⟩
              subst hK
              obtain ⟨k, C', fa, fd, ps, F1, F2, F3, F4, F5, F6⟩ := C.mkc f F ms hF hcl
              cases same C' F6
              exact pe_make0 F1 F2 F3 (hs.gl hg) F4 F5 .nil pass0 k1
            | cons a as =>
              refine ⟨tMake C0 (spI K f F) [] E0 t, fun X C hs hK => ?_, mMake_ok hC0 sr⟩
              subst hK
              obtain ⟨k, C', fa, fd, ps, F1, F2, F3, F4, F5, F6⟩ := C.mkc f F ms hF hcl
              cases same C' F6
              rw [List.all_cons, Bool.and_eq_true] at hst
              exact pe_make F1 F2 F3 (hs.gl hg) F4 F5 .nil pass0 (pt X C hs rfl) k1 (star1 hst.1) (stars hst.2)
          cases args with
          | nil =>
            cases ha
            refine ⟨tCall (spD K F) [] E0 tNil, fun X C hs hK => ?_, mCall_ok rNil_ok⟩
            subst hK
            obtain ⟨k, fa, fd, ps, F1, F2, F3, F4, F5⟩ := C.fs f F ms hF hcl
            exact pe_call0 F1 F2 (hs.gl hg) F3 F4 F5 .nil pass0 k1
          | cons a as =>
            refine ⟨tCall (spD K F) [] E0 t, fun X C hs hK => ?_, mCall_ok sr⟩
            subst hK
            obtain ⟨k, fa, fd, ps, F1, F2, F3, F4, F5⟩ := C.fs f F ms hF hcl
            rw [List.all_cons, Bool.and_eq_true] at hst
            exact pe_call F1 F2 (hs.gl hg) F3 F4 F5 .nil pass0 (pt X C hs rfl) k1 (star1 hst.1) (stars hst.2)
        · split at h
          · rename_i hb
            have hb' : f ∈ T.bs := by simpa using hb
            split at h
            · split at h
              · rename_i hst
                obtain ⟨m1, h1, h5⟩ := Option.bind_eq_some_iff.mp h
                clear h
                split at h5
                · rename_i e
                  cases h5
                  subst e
                  exact list_ok hg hb' hst (ih.e _ _ _ h1)
                · obtain ⟨op, h2, rfl⟩ := Option.map_eq_some_iff.mp h5
                  exact b1_ok h2 hn hg hb' hst (ih.e _ _ _ h1)
              · cases h
            · split at h
              · rename_i hc
                obtain ⟨hst, hfe, hn2, hg2, hb2⟩ := hc
                obtain ⟨m1, h1, h5⟩ := Option.bind_eq_some_iff.mp h
                obtain ⟨ty, h2, rfl⟩ := Option.map_eq_some_iff.mp h5
                clear h h5
                subst hfe
                exact isi_ok h2 hn2 hg hb' hg2 (by simpa using hb2) hst (ih.e _ _ _ h1)
              · cases h
            · cases h
          · cases h
      · cases h
    · cases h
  · unfold cCmp at h
    split at h
    · split at h
      · rename_i hn
        obtain ⟨a', ha, h⟩ := Option.bind_eq_some_iff.mp h
        obtain ⟨b', hb, rfl⟩ := Option.map_eq_some_iff.mp h
        exact cmp1_ok (ih.e _ _ _ ha) (ih.e _ _ _ hb) hn
      · cases h
    · split at h
      · rename_i hn
        obtain ⟨a', ha, h⟩ := Option.bind_eq_some_iff.mp h
        obtain ⟨b', hb, h⟩ := Option.bind_eq_some_iff.mp h
        obtain ⟨d', hd, rfl⟩ := Option.map_eq_some_iff.mp h
        exact cmp2_ok (ih.e _ _ _ ha) (ih.e _ _ _ hb) (ih.e _ _ _ hd) hn
      · cases h
    · cases h
  · cases o with
    | none => rw [cO_none] at h; cases h; exact ⟨_, fun _ _ _ _ => po_none, oNone_ok⟩
    | some e =>
      unfold cO at h
      obtain ⟨a', ha, rfl⟩ := Option.map_eq_some_iff.mp h
      obtain ⟨te, pe, se⟩ := ih.e _ _ _ ha
      exact ⟨_, fun X C hs hK => po_some (pe X C hs hK), oSome_ok se⟩
  · unfold cT at h
    split at h
    · obtain ⟨a', ha, rfl⟩ := Option.map_eq_some_iff.mp h
      obtain ⟨te, pe, se⟩ := ih.t _ _ _ ha
      exact ⟨_, fun X C hs hK => pt_not (pe X C hs hK), mtNot_ok se⟩
    · obtain ⟨m1, h1, h⟩ := Option.bind_eq_some_iff.mp h
      obtain ⟨ms, h2, rfl⟩ := Option.map_eq_some_iff.mp h
      obtain ⟨tt, pt, st⟩ := boolsT_ok (fun e m h => ih.t _ e m h) (pos := ‹Pos›) h1 h2
      exact ⟨tt, fun X C hs hK => (pt X C hs hK).pt, st⟩
    · obtain ⟨a', ha, rfl⟩ := Option.map_eq_some_iff.mp h
      exact (ih.c _ _ _ _ _ ha _).t
    · split at h
      · rename_i hp
        obtain ⟨a', ha, rfl⟩ := Option.map_eq_some_iff.mp h
        obtain ⟨te, pe, se⟩ := ih.e _ _ _ ha
        exact ⟨_, fun X C hs hK => pt_val (pe X C hs hK) (plain_no hp), tst_ok se⟩
      · cases h
  · cases ifs with
    | nil => rw [cIfs_nil] at h; cases h; exact ⟨_, fun _ _ _ _ => pts_nil, mtYes_ok⟩
    | cons a r =>
      cases r with
      | nil =>
        unfold cIfs at h
        obtain ⟨tt, pt, st⟩ := ih.t _ _ _ h
        exact ⟨tt, fun X C hs hK => pts_one (pt X C hs hK), st⟩
      | cons b r => unfold cIfs at h; cases h
  · unfold cI at h
    split at h
    · split at h
      · rename_i f p args pos hc
        obtain ⟨hn, hg, hb, _⟩ := hc
        have hb' : f ∈ T.bs := by simpa using hb
        obtain ⟨ms, hm, h5⟩ := Option.bind_eq_some_iff.mp h
        clear h
        have one : ∀ {a : Expr} {m1 : ME}, cList (cE T n sc) [a] = some [m1] → notStar a = true ∧ DU T K sc a m1 := fun {a m1} z => by
          unfold cList at z
          split at z
          · rename_i hst
            obtain ⟨x, z1, z⟩ := Option.bind_eq_some_iff.mp z
            obtain ⟨y, z2, z⟩ := Option.map_eq_some_iff.mp z
            cases z
            exact ⟨hst, ih.e _ _ _ z1⟩
          · cases z
        have two : ∀ {a b : Expr} {m1 m2 : ME}, cList (cE T n sc) [a, b] = some [m1, m2] → notStar a = true ∧ notStar b = true ∧ DU T K sc a m1 ∧ DU T K sc b m2 := fun {a b m1 m2} z => by
          unfold cList at z
          split at z
          · rename_i hst
            obtain ⟨x, z1, z⟩ := Option.bind_eq_some_iff.mp z
            obtain ⟨y, z2, z⟩ := Option.map_eq_some_iff.mp z
            cases z
            obtain ⟨h1, h2⟩ := one z2
            exact ⟨hst, h1, ih.e _ _ _ z1, h2⟩
          · cases z
        have three : ∀ {a b d : Expr} {m1 m2 m3 : ME}, cList (cE T n sc) [a, b, d] = some [m1, m2, m3] → notStar a = true ∧ notStar b = true ∧ notStar d = true ∧ DU T K sc a m1 ∧ DU T K sc b m2 ∧ DU T K sc d m3 := fun {a b d m1 m2 m3} z => by
          unfold cList at z
          split at z
          · rename_i hst
            obtain ⟨x, z1, z⟩ := Option.bind_eq_some_iff.mp z
            obtain ⟨y, z2, z⟩ := Option.map_eq_some_iff.mp z
            cases z
            obtain ⟨h1, h2, h3, h4⟩ := two z2
            exact ⟨hst, h1, h2, ih.e _ _ _ z1, h3, h4⟩
          · cases z
        split at h5
        · obtain ⟨hst, te, pe, se⟩ := one hm
          split at h5
          · rename_i e
            cases h5
            subst e
            exact ⟨_, fun X C hs hK => pi_range1 (hs.gl hg) (C.bs _ hb') (pa_cons (pe X C hs hK) pa_nil (star1 hst)) (star1 hst), iRg1_ok se⟩
          · split at h5
            · rename_i e
              cases h5
              subst e
              exact ⟨_, fun X C hs hK => by subst hK; exact pi_enum (hs.gl hg) (C.bs _ hb') (pa_cons (pe X C hs rfl) pa_nil (star1 hst)) (star1 hst), iEn_ok se⟩
            · split at h5
              · rename_i e
                cases h5
                subst e
                exact ⟨_, fun X C hs hK => by subst hK; exact RT.pi_revA (hs.gl hg) (C.bs _ hb') (pe X C hs rfl) (star1 hst), iRv_ok se⟩
              · cases h5
        · obtain ⟨hst, te, pe, se⟩ := one hm
          split at h5
          · rename_i e
            cases h5
            subst e
            exact ⟨_, fun X C hs hK => pi_range1 (hs.gl hg) (C.bs _ hb') (pa_cons (pe X C hs hK) pa_nil (star1 hst)) (star1 hst), iRg1_ok se⟩
          · split at h5
            · rename_i e
              cases h5
              subst e
              exact ⟨_, fun X C hs hK => by subst hK; exact RT.pi_revA (hs.gl hg) (C.bs _ hb') (pe X C hs rfl) (star1 hst), iRv_ok se⟩
            · cases h5
        · obtain ⟨hst, hst2, ⟨te, pe, se⟩, tb, pb, sb⟩ := two hm
          split at h5
          · rename_i e
            cases h5
            subst e
            exact ⟨_, fun X C hs hK => pi_range2 (hs.gl hg) (C.bs _ hb') (pa_cons (pe X C hs hK) (pa_cons (pb X C hs hK) pa_nil (star1 hst2)) (star1 hst)) (by rw [star1 hst, star1 hst2]; rfl) (by rw [star1 hst2]; rfl), iRg2_ok se sb⟩
          · split at h5
            · rename_i e
              cases h5
              subst e
              exact ⟨_, fun X C hs hK => by subst hK; exact pi_zip (hs.gl hg) (C.bs _ hb') (pa_cons (pe X C hs rfl) (pa_cons (pb X C hs rfl) pa_nil (star1 hst2)) (star1 hst)) (star1 hst) (stars (by simp [hst2])), iZp_ok se sb⟩
            · cases h5
        · obtain ⟨hst, hst2, ⟨te, pe, se⟩, tb, pb, sb⟩ := two hm
          split at h5
          · rename_i e
            cases h5
            subst e
            exact ⟨_, fun X C hs hK => pi_range2 (hs.gl hg) (C.bs _ hb') (pa_cons (pe X C hs hK) (pa_cons (pb X C hs hK) pa_nil (star1 hst2)) (star1 hst)) (by rw [star1 hst, star1 hst2]; rfl) (by rw [star1 hst2]; rfl), iRg2_ok se sb⟩
          · cases h5
        · obtain ⟨hst, hst2, hst3, ⟨te, pe, se⟩, ⟨tb, pb, sb⟩, td, pd, sd⟩ := three hm
          split at h5
          · rename_i e
            cases h5
            subst e
            exact ⟨_, fun X C hs hK => pi_range3 (hs.gl hg) (C.bs _ hb') (pa_cons (pe X C hs hK) (pa_cons (pb X C hs hK) (pa_cons (pd X C hs hK) pa_nil (star1 hst3)) (star1 hst2)) (star1 hst)) (star1 hst) (stars (by simp [hst2, hst3])), iRg3_ok se sb sd⟩
          · cases h5
        · cases h5
      · obtain ⟨a', ha, rfl⟩ := Option.map_eq_some_iff.mp h
        exact iSeq_du (ih.e _ _ _ ha)
    · obtain ⟨a', ha, rfl⟩ := Option.map_eq_some_iff.mp h
      exact iSeq_du (ih.e _ _ _ ha)
end
end DL
end
section
set_option maxHeartbeats 8000000
/-! DL14: the compiler of statements; a def keeps its promise. -/
namespace DL
open PySem PySem.Spec PyProof.Rows L2

theorem all_ok {T : CT} {K : PySem.W.Frag} (hks : TOk T K) : ∀ n, AllOk T K n
  | 0 => all_zero
  | n + 1 => all_succ hks (all_ok hks n)

def mBlock : List MS → MS
  | [] => sNil
  | [m] => m
  | m :: ms => sSeq m (mBlock ms)
/-- stores a name: the slot, and whether the comprehension's list goes there at once -/
def asgOk (sc : Scope) (x : Str) (px : Pos) (line : Nat) : Expr → Bool
  | .ListComp _ _ scope pos => (match sc.kind with | .function => true | _ => false) &&
      (match sc.names.lookup x with
      | some .local => (px.line == pos.line) && !(scope.names.any fun (n, k) => n == x && (k == .local || k == .cell))
      | some .cell => true
      | _ => false)
  | .SetComp .. => false
  | .DictComp .. => false
  | _ => true
mutual
noncomputable def cS (T : CT) : Nat → Scope → Stmt → Option MS
  | 0, _, _ => none
  | n + 1, sc, st => match st with
    | .Pass _ => some sNil
    | .Break _ => some sBreak
    | .Continue _ => some sCont
    | .Return (some e) _ => (cE T n sc e).map sRet
    | .Return none _ => some sRetN
    | .Raise _ _ _ => some sNever
    | .Expr (.Constant (.str _) _ _) _ => some sNil
    | .Expr (.Call (.Attribute (.Name x p) m apos) [e] [] cpos) _ => if okNm x = true ∧ visB sc x = true ∧ notStar e = true ∧ (apos.endLine == cpos.line) = true then
        (idx T.N x).bind fun i => (cE T n sc e).bind fun a => if m = "append" then some (sApp i a) else if m = "extend" then some (sExt i a) else none
      else none
    | .Expr e _ => if notComp e = true then (cE T n sc e).map sExpr else none
    | .Assign [.Name x px] e pos => if locB sc x = true ∧ asgOk sc x px pos.line e = true then (idx T.N x).bind fun i => (cE T n sc e).map (sAsg i) else none
    | .Assign [.Tuple es k p] e _ => if notTup e = true ∧ notComp e = true then (cTg T sc n (.Tuple es k p)).bind fun t => (cE T n sc e).map (sAsgT t) else none
    | .Assign [.Subscript (.Name x p) ix _] e _ => if okNm x = true ∧ visB sc x = true ∧ notSlice ix = true then (idx T.N x).bind fun i => (cE T n sc ix).bind fun a => (cE T n sc e).map fun b => sSet i a b else none
    | .AugAssign (.Name x _) .Add e _ => if locB sc x = true then (idx T.N x).bind fun i => (cE T n sc e).map (sAug i) else none
    | .If c a b _ => (cT T n sc c).bind fun t => (cB T n sc a).bind fun x => (cB T n sc b).map fun y => sIf t x y
    | .For tg iter body [] _ => if notSet iter = true then (cI T n sc tg iter).bind fun src => (cTg T sc n tg).bind fun t => (cB T n sc body).map fun b => sFor src t b else none
    | .While c body [] _ => (cT T n sc c).bind fun t => (cB T n sc body).map fun b => sWhile t b
    | _ => none
noncomputable def cB (T : CT) : Nat → Scope → List Stmt → Option MS
  | 0, _, _ => none
  | n + 1, sc, sts => match sts with
    | [] => some sNil
    | [s] => cS T n sc s
    | s :: rest => (cS T n sc s).bind fun a => (cB T n sc rest).map fun b => sSeq a b
end
structure SOk (T : CT) (K : PySem.W.Frag) (n : Nat) : Prop where
  s : ∀ sc st m, cS T n sc st = some m → ∀ X, COk T X → ScOk X sc → X.env.scope = sc → X.K = K → (∀ env, PassesOwn (model X.prog X.w) X.A env X.xe) → ∃ ts, PS X st ts ∧ SS K ts m
  b : ∀ sc sts m, cB T n sc sts = some m → ∀ X, COk T X → ScOk X sc → X.env.scope = sc → X.K = K → (∀ env, PassesOwn (model X.prog X.w) X.A env X.xe) → ∃ ts, PSs X sts ts ∧ SS K ts m
section
variable {T : CT} {K : PySem.W.Frag}
theorem sub_no {o i : Expr} {pos : Pos} {env : Env} (h : notSlice i = true) (v : Value) : assign (.Subscript o i pos) env v = (do
      let ov ← holding [v] (eval o env)
      let iv ← holding [v, ov] (eval i env)
      standAt pos
      holding [v, ov, iv] (setItem ov iv v)
      release [v, ov, iv] []) := by
  cases i <;> first | rfl | cases h
theorem sole_no {e tg : Expr} {l : Nat} {env : Env} (h : notComp e = true) : swapsWithSole [tg] e l env = pure false := by
  unfold swapsWithSole
  exact swaps_no h
theorem sole_sub {e a b : Expr} {p : Pos} {l : Nat} {env : Env} : swapsWithSole [.Subscript a b p] e l env = pure false := by
  unfold swapsWithSole
  exact swaps_sub
theorem swapped_sub {e a b : Expr} {p : Pos} {env : Env} : swappedStores [.Subscript a b p] e env = pure none := by
  cases e <;> rfl
theorem hfew1 {e : Expr} {env : Env} {cpos : Pos} (h : notStar e = true) : ((backTo cpos (starEach [e] env)).all (fun x => !x.1) && (backToKw cpos (keywordEach [] env)).all (fun x => x.1.isSome)
      && decide ([e].length + ([] : List Keyword).length + (if ([] : List Keyword).isEmpty then 0 else 1) < 30)) = true := by
  rw [star1 h]; rfl
theorem swaps_cell {elt : Expr} {gs : List Comprehension} {scope : Scope} {pos py : Pos} {y : Str} {l : Nat} {env : Env} (hy : env.scope.names.lookup y = some .cell) : swapsWith (.ListComp elt gs scope pos) (some (.Name y py)) l env = pure false := by
  have ky : env.kindOf y = some .cell := hy
  unfold swapsWith
  simp only [ky]
  have : ((some NameKind.cell : Option NameKind) == some NameKind.local) = false := rfl
  rw [this, Bool.and_false, Bool.false_and, Bool.false_and]
theorem swapsN {e : Expr} {x : Str} {px : Pos} {line : Nat} {env : Env} (h : asgOk env.scope x px line e = true) (hl : env.scope.names.lookup x ≠ some .local ∨ notComp e = true) : swapsWith e (some (.Name x px)) line env = pure false := by
  cases e with
  | ListComp elt gs scope pos =>
    unfold asgOk at h
    rcases hl with hl | hl
    · rw [Bool.and_eq_true] at h
      obtain ⟨_, h⟩ := h
      split at h
      · rename_i z; exact absurd z hl
      · rename_i z; exact swaps_cell z
      · cases h
    · cases hl
  | SetComp => cases h
  | DictComp => cases h
  | _ => rfl
theorem lc_inv {n : Nat} {sc scope : Scope} {elt : Expr} {gs : List Comprehension} {cpos : Pos} {m : ME} (h : cE T (n + 1) sc (.ListComp elt gs scope cpos) = some m) :
    ∃ tg iter ifs src t tt te, gs = [⟨tg, iter, ifs, 0⟩] ∧ notSet iter = true ∧ cI T n sc tg iter = some src ∧ cTg T scope n tg = some t ∧ cIfs T n scope ifs = some tt ∧ cE T n scope elt = some te ∧ blkC T.N sc scope (ownOf T.N t) = true ∧ m = mLc src t tt te t.slots := by
  unfold cE at h
  cases gs with
  | nil => cases h
  | cons g r =>
    cases r with
    | cons => obtain ⟨tg, iter, ifs, ia⟩ := g; cases h
    | nil =>
      obtain ⟨tg, iter, ifs, ia⟩ := g
      simp only at h
      split at h
      · rename_i hc
        obtain ⟨hc0, hcs⟩ := hc
        subst hc0
        obtain ⟨src, h1, h⟩ := Option.bind_eq_some_iff.mp h
        obtain ⟨t, h2, h⟩ := Option.bind_eq_some_iff.mp h
        obtain ⟨tt, h3, h⟩ := Option.bind_eq_some_iff.mp h
        obtain ⟨te, h4, h⟩ := Option.bind_eq_some_iff.mp h
        split at h
        · rename_i hb
          cases h
          exact ⟨_, _, _, _, _, _, _, rfl, hcs, h1, h2, h3, h4, hb, rfl⟩
        · cases h
      · cases h
theorem asg_ok (hks : TOk T K) {n : Nat} {sc : Scope} {x : Str} {px pos : Pos} {e : Expr} {i : Nat} {m : ME} (hl : locB sc x = true) (ha : asgOk sc x px pos.line e = true) (hi : idx T.N x = some i) (hm : cE T n sc e = some m)
    {X : Cx} (C : COk T X) (S : ScOk X sc) (hs : X.env.scope = sc) (hK : X.K = K) : ∃ ts, PS X (.Assign [.Name x px] e pos) ts ∧ SS K ts (sAsg i m) := by
  have hN : X.N[i]? = some x := by rw [C.N]; exact idx_ok hi
  by_cases hc : X.env.scope.names.lookup x ≠ some .local ∨ notComp e = true
  · obtain ⟨te, pe, se⟩ := (all_ok hks n).e _ _ _ hm
    exact ⟨_, ps_set C.nd hN (S.loc hl).1 (pe X C S hK) (swapsN (by rw [hs]; exact ha) hc) (S.loc hl).2, sAsg_ok se⟩
  · have hloc : X.env.scope.names.lookup x = some .local := by
      by_cases z : X.env.scope.names.lookup x = some .local
      · exact z
      · exact absurd (.inl z) hc
    have hnc : ¬ notComp e = true := fun z => hc (.inr z)
    cases e with
    | ListComp elt gs scope cpos =>
      cases n with
      | zero => unfold cE at hm; cases hm
      | succ n =>
        obtain ⟨tg, iter, ifs, src, t, tt, te, rfl, hcs, h1, h2, h3, h4, hb, rfl⟩ := lc_inv hm
        have ih := all_ok (K := K) hks n
        obtain ⟨wi, pi, si⟩ := ih.i _ _ _ _ h1 hcs
        obtain ⟨pg, sg⟩ := cTg_ok (K := K) h2
        obtain ⟨t0, pf, sf⟩ := ih.f _ _ _ h3
        obtain ⟨te0, pe, se⟩ := ih.e _ _ _ h4
        subst hK
        have hk : X.env.scope.kind = .function := by
          rw [hs]
          unfold asgOk at ha
          rw [Bool.and_eq_true] at ha
          have := ha.1
          split at this
          · assumption
          · cases this
        have hsw : swapsWith (.ListComp elt [⟨tg, iter, ifs, 0⟩] scope cpos) (some (.Name x px)) pos.line X.env = pure true := by
          unfold asgOk at ha
          rw [← hs, hloc, Bool.and_eq_true] at ha
          have h5 := ha.2
          simp only [Bool.and_eq_true, Bool.not_eq_true'] at h5
          exact sw_true hk hloc h5.1 h5.2
        have q := ps_setLc (X := X) (own := ownOf T.N t) (g := gOf X.K t) (tt := t0) (te := te0) C.calm C.nd hN hloc hsw (pi_len (pi X C S rfl)) (S.own (blkOk_by (by rw [C.N]; exact hb)))
          (fun s H C' cl fp => pg (X.blk s H scope (compEnvC scope cl C' X.env) fp) (C.blk s H scope _ fp) ScOk.blk rfl)
          (fun s H C' cl fp => pf (X.blk s H scope (compEnvC scope cl C' X.env) fp) (C.blk s H scope _ fp) ScOk.blk rfl)
          (fun s H C' cl fp => pe (X.blk s H scope (compEnvC scope cl C' X.env) fp) (C.blk s H scope _ fp) ScOk.blk rfl)
          (folded_no hcs)
        rw [ownOf_snd] at q
        exact ⟨_, q, sAsg_ok (mLc_ok si sg (fun j hj => hj) sf se)⟩
    | SetComp => cases ha
    | DictComp => cases ha
    | _ => exact absurd rfl hnc
theorem sok_zero : SOk T K 0 := ⟨fun sc st m h => (by unfold cS at h; cases h), fun sc st m h => (by unfold cB at h; cases h)⟩
theorem sok_succ (hks : TOk T K) {n : Nat} (ih : SOk T K n) : SOk T K (n + 1) := by
  refine ⟨fun sc st m h X C S hs hK hp => ?_, fun sc sts m h X C S hs hK hp => ?_⟩
  · have A := all_ok (K := K) hks n
    unfold cS at h
    split at h
    · cases h; exact ⟨_, ps_pass, sNil_ok⟩
    · cases h; exact ⟨_, ps_break, sBreak_ok⟩
    · cases h; exact ⟨_, ps_continue, sCont_ok⟩
    · obtain ⟨a, h1, rfl⟩ := Option.map_eq_some_iff.mp h
      obtain ⟨te, pe, se⟩ := A.e _ _ _ h1
      exact ⟨_, ps_ret (pe X C S hK), sRet_ok se⟩
    · cases h; exact ⟨_, ps_retN, sRetN_ok⟩
    · cases h; exact ⟨_, ps_never, sNever_ok⟩
    · cases h; exact ⟨_, ps_doc, sNil_ok⟩
    · split at h
      · rename_i hc
        obtain ⟨hn, hv, hst, hl⟩ := hc
        obtain ⟨k1, k2, k3⟩ := okNm_ok hn
        obtain ⟨i, hi, h⟩ := Option.bind_eq_some_iff.mp h
        obtain ⟨a, h1, h⟩ := Option.bind_eq_some_iff.mp h
        obtain ⟨te, pe, se⟩ := A.e _ _ _ h1
        have pv0 : ∀ p, PE X (.Name _ p) (tVar i) := fun p => pe_var (pos := p) (by rw [C.N]; exact idx_ok hi) (S.vis hv) k1 k2
        split at h
        · rename_i e
          cases h
          subst e
          subst hK
          exact ⟨_, ps_expr (pe_bm PySem.F.plainAttrs_list PySem.F.slot_list_append PySem.F.type_list_append mt_append (pv0 _) (pa_cons (pe X C S rfl) pa_nil (star1 hst)) rfl (hfew1 hst) hl (star1 hst) rfl) rfl, sApp_ok se⟩
        · split at h
          · rename_i e
            cases h
            subst e
            subst hK
            exact ⟨_, ps_expr (pe_bm PySem.F.plainAttrs_list PySem.F.slot_list_extend PySem.F.type_list_extend mt_extend (pv0 _) (pa_cons (pe X C S rfl) pa_nil (star1 hst)) rfl (hfew1 hst) hl (star1 hst) rfl) rfl, sExt_ok se⟩
          · cases h
      · cases h
    · split at h
      · rename_i hc
        obtain ⟨a, h1, rfl⟩ := Option.map_eq_some_iff.mp h
        obtain ⟨te, pe, se⟩ := A.e _ _ _ h1
        exact ⟨_, ps_expr (pe X C S hK) (swaps_no hc), sExpr_ok se⟩
      · cases h
    · split at h
      · rename_i hc
        obtain ⟨i, hi, h⟩ := Option.bind_eq_some_iff.mp h
        obtain ⟨a, h1, rfl⟩ := Option.map_eq_some_iff.mp h
        exact asg_ok hks hc.1 hc.2 hi h1 C S hs hK
      · cases h
    · split at h
      · rename_i hc
        obtain ⟨t, h2, h⟩ := Option.bind_eq_some_iff.mp h
        obtain ⟨a, h1, rfl⟩ := Option.map_eq_some_iff.mp h
        obtain ⟨te, pe, se⟩ := A.e _ _ _ h1
        obtain ⟨pg, sg⟩ := cTg_ok (K := K) h2
        exact ⟨_, ps_asg (pe X C S hK) (pg X C S hK) (sole_no hc.2) (swapped_no hc.1), sAsgT_ok se sg⟩
      · cases h
    · split at h
      · rename_i hc
        obtain ⟨k1, k2, k3⟩ := okNm_ok hc.1
        obtain ⟨i, hi, h⟩ := Option.bind_eq_some_iff.mp h
        obtain ⟨a, h1, h⟩ := Option.bind_eq_some_iff.mp h
        obtain ⟨b, h2, rfl⟩ := Option.map_eq_some_iff.mp h
        obtain ⟨te, pe, se⟩ := A.e _ _ _ h1
        obtain ⟨tb, pb, sb⟩ := A.e _ _ _ h2
        exact ⟨_, ps_asg (pb X C S hK) (pg_sub (pe_var (by rw [C.N]; exact idx_ok hi) (S.vis hc.2.1) k1 k2) (pe X C S hK) set_list (sub_no hc.2.2)) sole_sub swapped_sub, sSet_ok sb se⟩
      · cases h
    · split at h
      · rename_i hc
        obtain ⟨i, hi, h⟩ := Option.bind_eq_some_iff.mp h
        obtain ⟨a, h1, rfl⟩ := Option.map_eq_some_iff.mp h
        obtain ⟨te, pe, se⟩ := A.e _ _ _ h1
        exact ⟨_, ps_aug C.nd (by rw [C.N]; exact idx_ok hi) (S.loc hc).1 (pe X C S hK) ip_addA (S.loc hc).2, sAug_ok se⟩
      · cases h
    · obtain ⟨t, h1, h⟩ := Option.bind_eq_some_iff.mp h
      obtain ⟨x, h2, h⟩ := Option.bind_eq_some_iff.mp h
      obtain ⟨y, h3, rfl⟩ := Option.map_eq_some_iff.mp h
      obtain ⟨tt, pt, st⟩ := A.t _ _ _ h1
      obtain ⟨ta, pa, sa⟩ := ih.b _ _ _ h2 X C S hs hK hp
      obtain ⟨tb, pb, sb⟩ := ih.b _ _ _ h3 X C S hs hK hp
      exact ⟨_, ps_if (pt X C S hK) pa pb, sIf_ok st sa sb⟩
    · split at h
      · rename_i hc
        obtain ⟨src, h1, h⟩ := Option.bind_eq_some_iff.mp h
        obtain ⟨t, h2, h⟩ := Option.bind_eq_some_iff.mp h
        obtain ⟨b, h3, rfl⟩ := Option.map_eq_some_iff.mp h
        obtain ⟨wi, pi, si⟩ := A.i _ _ _ _ h1 hc
        obtain ⟨pg, sg⟩ := cTg_ok (K := K) h2
        obtain ⟨tb, pb, sb⟩ := ih.b _ _ _ h3 X C S hs hK hp
        exact ⟨_, ps_for (hp _) C.calm (pi X C S hK) (pg X C S hK) pb (folded_no hc), sFor_ok si sg sb⟩
      · cases h
    · obtain ⟨t, h1, h⟩ := Option.bind_eq_some_iff.mp h
      obtain ⟨b, h2, rfl⟩ := Option.map_eq_some_iff.mp h
      obtain ⟨tt, pt, st⟩ := A.t _ _ _ h1
      obtain ⟨tb, pb, sb⟩ := ih.b _ _ _ h2 X C S hs hK hp
      exact ⟨_, ps_while (hp _) (pt X C S hK) pb, sWhile_ok st sb⟩
    · cases h
  · unfold cB at h
    split at h
    · cases h; exact ⟨_, pss_nil, sNil_ok⟩
    · obtain ⟨ts, ps, ss⟩ := ih.s _ _ _ h X C S hs hK hp
      exact ⟨_, pss_one ps, ss⟩
    · obtain ⟨a, h1, h⟩ := Option.bind_eq_some_iff.mp h
      obtain ⟨b, h2, rfl⟩ := Option.map_eq_some_iff.mp h
      obtain ⟨ts, ps, ss⟩ := ih.s _ _ _ h1 X C S hs hK hp
      obtain ⟨tb, pb, sb⟩ := ih.b _ _ _ h2 X C S hs hK hp
      exact ⟨_, pss_cons ps pb, sSeq_ok ss sb⟩
theorem sok (hks : TOk T K) : ∀ n, SOk T K n
  | 0 => sok_zero
  | n + 1 => sok_succ hks (sok hks n)

/-! ### a def -/
/-- what stands in the module, for defs at level k: the callees, the built-ins, the constants -/
structure Mods (P : Program) (w : World) (K : PySem.W.Frag) (mg : Str → Option Value) (base : Heap) (k : Nat) (T : CT) : Prop where
  fs : ∀ x F ms, T.fs.lookup x = some (F, ms) → x ∉ T.cls → ∃ f fd ps, FnOk P w K mg base CX0 k f fd ps (spD K F) ∧ mg x = some (.ref f) ∧ PySem.W.keepIn K (.ref f) = true ∧ Binds K fd ps []
  mkc : ∀ x F ms, T.fs.lookup x = some (F, ms) → x ∈ T.cls → ∃ j C f fd ps, j + 1 ≤ k ∧ Mk K C f ∧ FnOk P w K mg base CX0 j f fd ps (spI K x F) ∧ mg x = some (.ref C) ∧ Binds K fd ps [] ∧ ClsAt K x C
  mt : ∀ m tab ms, T.mts.lookup m = some (tab, ms) → ∀ C sp, TabS K tab C sp → Cls K C ∧ ∃ f fd ps, Meth K C m f ∧ FnOk P w K mg base CX0 k f fd ps sp ∧ Binds K fd ps []
  cls : ∀ x ∈ T.cls, ∃ C, ClsAt K x C
  fl : FlOk K T.fl
  bs : ∀ x ∈ T.bs, mg x = none
  ks : ∀ x v d, T.ks.lookup x = some (v, d) → ∃ u, mg x = some u ∧ RelV v u ∧ Dp K (fun _ => none) v d
theorem Mods.tok {P : Program} {w : World} {mg : Str → Option Value} {base : Heap} {k : Nat} (M : Mods P w K mg base k T) : TOk T K := ⟨fun y v d hy => by
      obtain ⟨u, _, _, a⟩ := M.ks y v d hy; exact a, M.cls, M.fl⟩
theorem Mods.cok {P : Program} {w : World} {mg : Str → Option Value} {base : Heap} {k : Nat} (M : Mods P w K mg base k T) {X : Cx} (hP : X.prog = P) (hw : X.w = w) (hK : X.K = K) (hg : X.mg = mg) (hb : X.base = base) (hcalm : X.calm = true) (hN : X.N = T.N) (nd : X.N.Nodup) (hr : Room k X.A) (hu : X.A.units + 65 < cLine) : COk T X := by
  subst hP hw hK hg hb
  refine ⟨hcalm, hN, nd, fun y F' ms hy hc => ?_, fun y F' ms hy hc => ?_, fun m tab ms hy => ⟨k, M.mt m tab ms hy, hr⟩, M.bs, M.ks, hu⟩
  · obtain ⟨f', fd', ps', a1, a2, a3, a4⟩ := M.fs y F' ms hy hc
    exact ⟨k, f', fd', ps', a1, hr, a2, a3, a4⟩
  · obtain ⟨j, C, f', fd', ps', hj, a1, a2, a3, a4, a5⟩ := M.mkc y F' ms hy hc
    exact ⟨j, C, f', fd', ps', a1, a2, hr.mono hj, a3, a4, a5⟩
theorem fn_ok {P : Program} {w : World} {mg : Str → Option Value} {base : Heap} {x qual : Str} {st : Stmt} {f : Addr} {fd : FuncData} {ps : List Str} {k n : Nat} {body : MS}
    (M : Mods P w K mg base k T) (F : Fun K x qual st f fd) (S : FnScope T.N ps (defScope st)) (hc : cB T n (defScope st) (defBody st) = some body) :
    FnOk P w K mg base CX0 (k + 1) f fd ps (spD K (fnSem ps.length T.N.length body)) := by
  have hm : ∀ as r, fnSem ps.length T.N.length body as = some r → as.length = ps.length := fun as r h => by
    unfold fnSem at h
    split at h
    · assumption
    · cases h
  have hlen : ps.length ≤ T.N.length := by
    have := congrArg List.length S.pre
    rw [List.length_take] at this
    omega
  refine F.ok S (fun vs H Q E h => ?_) (fun cdv A outer s H vs Q E hr h => ?_)
  · obtain ⟨as, r, hF, hl⟩ := spD_len h
    rw [hl]; exact hm as r hF
  · have hvl : vs.length = ps.length := by
      obtain ⟨as, r, hF, hl⟩ := spD_len h
      rw [hl]; exact hm as r hF
    let X := (cxOf CX0 P w K mg base T.N qual (defScope st) f cdv A outer s H E).nox
    have C : COk T X := M.cok rfl rfl rfl rfl rfl rfl rfl S.nd hr (by
      have := hr.units
      show (A.deeper (envOfC qual (defScope st) s.heap.objs.size f cdv)).units + 65 < cLine
      have h2 := hr.un
      omega)
    have hks : TOk T K := M.tok
    obtain ⟨ts, pss, ss⟩ := (sok (K := K) hks n).b _ _ _ hc X C (ScOk.of fun _ => rfl) rfl rfl (fun env => PassesOwn.never)
    exact ⟨ts, pss, body_ok ss (by omega) h⟩

/-! ### __init__ -/
noncomputable def cInit (T : CT) (n : Nat) (sc : Scope) : List Stmt → Option (List (Str × ME))
  | [] => some []
  | .Assign [.Attribute (.Name x _) f _] e _ :: r => if okNm x = true ∧ visB sc x = true ∧ idx T.N x = some 0 ∧ notComp e = true then (cE T n sc e).bind fun m => (cInit T n sc r).map fun ms => (f, m) :: ms else none
  | _ => none
theorem cInit_ok (hks : TOk T K) {n : Nat} {sc : Scope} {X : Cx} (C : COk T X) (hs : ScOk X sc) (hK : X.K = K) : ∀ {sts : List Stmt} {ins : List (Str × ME)}, cInit T n sc sts = some ins → ∃ ts, PSs X sts ts ∧ IS K ts ins
  | [], ins, h => by
    unfold cInit at h
    cases h
    exact ⟨_, pss_nil, is_nil⟩
  | st :: r, ins, h => by
    unfold cInit at h
    split at h
    · rename_i heq; cases heq
    · rename_i x px f fp e pos r' heq
      cases heq
      split at h
      · rename_i hc
        obtain ⟨hn, hv, hi, hcm⟩ := hc
        obtain ⟨k1, k2, k3⟩ := okNm_ok hn
        obtain ⟨m, h1, h⟩ := Option.bind_eq_some_iff.mp h
        obtain ⟨ms, h2, rfl⟩ := Option.map_eq_some_iff.mp h
        obtain ⟨te, pe, se⟩ := (all_ok (K := K) hks n).e _ _ _ h1
        obtain ⟨ts, p2, i2⟩ := cInit_ok hks C hs hK h2
        subst hK
        refine ⟨_, pss_cons (ps_fld (pe_var (by rw [C.N]; exact idx_ok hi) (hs.vis hv) k1 k2) (pe X C hs rfl) (swaps_no hcm)) p2, is_cons se i2⟩
      · cases h
    · cases h
theorem init_ok {P : Program} {w : World} {mg : Str → Option Value} {base : Heap} {x qual : Str} {st : Stmt} {f : Addr} {fd : FuncData} {ps : List Str} {k n : Nat} {ins : List (Str × ME)} {cl : Str}
    (M : Mods P w K mg base k T) (F : Fun K x qual st f fd) (S : FnScope T.N ps (defScope st)) (hc : cInit T n (defScope st) (defBody st) = some ins) (hcl : ∀ C, ClsAt K cl C → Cls K C ∧ ∀ f m, (f, m) ∈ ins → NoAttr K C f) (hlen : ins.length < 1000) :
    FnOk P w K mg base CX0 (k + 1) f fd ps (spI K cl (initSem ps.length T.N.length cl ins)) := by
  have hl : ∀ vs H Q E, spI K cl (initSem ps.length T.N.length cl ins) vs H Q E → vs.length = ps.length := fun vs H Q E h => by
    obtain ⟨x, dx, C, vs', G, as, r, as', rfl, hC, hx, gx, A, hF, q⟩ := h
    unfold initSem at hF
    split at hF
    · rename_i hc; rw [List.length_cons, A.len]; exact hc.1
    · cases hF
  have hlen2 : ps.length ≤ T.N.length := by
    have := congrArg List.length S.pre
    rw [List.length_take] at this
    omega
  refine F.ok S hl (fun cdv A outer s H vs Q E hr h => ?_)
  let X := (cxOf CX0 P w K mg base T.N qual (defScope st) f cdv A outer s H E).nox
  have C : COk T X := M.cok rfl rfl rfl rfl rfl rfl rfl S.nd hr (by
      have := hr.units
      show (A.deeper (envOfC qual (defScope st) s.heap.objs.size f cdv)).units + 65 < cLine
      have h2 := hr.un
      omega)
  obtain ⟨ts, pss, is⟩ := cInit_ok (X := X) M.tok C (ScOk.of fun _ => rfl) rfl hc
  exact ⟨ts, pss, init_body is (by rw [hl _ _ _ _ h]; exact hlen2) hcl hlen h⟩
end
end DL
end
section
set_option maxHeartbeats 4000000
/-! DL15: what the top has left; the law's end. -/
namespace DL
open PySem PySem.Spec PyProof.Rows L2

section
variable {P : Program} {w : World} {K : PySem.W.Frag} {mg : Str → Option Value} {base : Heap} {k : Nat}
def FsAll (P : Program) (w : World) (K : PySem.W.Frag) (mg : Str → Option Value) (base : Heap) (k : Nat) : List (Str × FD × List Bool) → Prop
  | [] => True
  | p :: r => (∃ f fd ps, FnOk P w K mg base CX0 k f fd ps (spD K p.2.1) ∧ mg p.1 = some (.ref f) ∧ PySem.W.keepIn K (.ref f) = true ∧ Binds K fd ps []) ∧ FsAll P w K mg base k r
def MkAll (P : Program) (w : World) (K : PySem.W.Frag) (mg : Str → Option Value) (base : Heap) (k : Nat) : List (Str × FD × List Bool) → Prop
  | [] => True
  | p :: r => (∃ j C f fd ps, j + 1 ≤ k ∧ Mk K C f ∧ FnOk P w K mg base CX0 j f fd ps (spI K p.1 p.2.1) ∧ mg p.1 = some (.ref C) ∧ Binds K fd ps [] ∧ ClsAt K p.1 C) ∧ MkAll P w K mg base k r
def BsAll (mg : Str → Option Value) : List Str → Prop
  | [] => True
  | x :: r => mg x = none ∧ BsAll mg r
def KsAll (K : PySem.W.Frag) (mg : Str → Option Value) : List (Str × V × D) → Prop
  | [] => True
  | p :: r => (∃ u, mg p.1 = some u ∧ RelV p.2.1 u ∧ Dp K (fun _ => none) p.2.1 p.2.2) ∧ KsAll K mg r
def TabAll (P : Program) (w : World) (K : PySem.W.Frag) (mg : Str → Option Value) (base : Heap) (k : Nat) (m : Str) : List (Str × FD) → Prop
  | [] => True
  | p :: r => (∃ C f fd ps, ClsAt K p.1 C ∧ Cls K C ∧ Meth K C m f ∧ FnOk P w K mg base CX0 k f fd ps (spD K p.2) ∧ Binds K fd ps []) ∧ TabAll P w K mg base k m r
def MtAll (P : Program) (w : World) (K : PySem.W.Frag) (mg : Str → Option Value) (base : Heap) (k : Nat) : List (Str × List (Str × FD) × List Bool) → Prop
  | [] => True
  | p :: r => TabAll P w K mg base k p.1 p.2.1 ∧ MtAll P w K mg base k r
def FlAll (K : PySem.W.Frag) : List (Str × Str) → Prop
  | [] => True
  | p :: r => (∃ C, ClsAt K p.1 C ∧ Cls K C ∧ NoAttr K C p.2) ∧ FlAll K r
theorem FsAll.at_ : ∀ {l : List (Str × FD × List Bool)}, FsAll P w K mg base k l → ∀ x F ms, l.lookup x = some (F, ms) → ∃ f fd ps, FnOk P w K mg base CX0 k f fd ps (spD K F) ∧ mg x = some (.ref f) ∧ PySem.W.keepIn K (.ref f) = true ∧ Binds K fd ps []
  | [], _, _, _, _, h => by simp at h
  | (y, F', ms') :: r, h, x, F, ms, hl => by
    rw [List.lookup_cons] at hl
    split at hl
    · rename_i hx
      cases hl
      have := beq_iff_eq.mp hx
      subst this
      exact h.1
    · exact FsAll.at_ h.2 x F ms hl
theorem MkAll.at_ : ∀ {l : List (Str × FD × List Bool)}, MkAll P w K mg base k l → ∀ x F ms, l.lookup x = some (F, ms) → ∃ j C f fd ps, j + 1 ≤ k ∧ Mk K C f ∧ FnOk P w K mg base CX0 j f fd ps (spI K x F) ∧ mg x = some (.ref C) ∧ Binds K fd ps [] ∧ ClsAt K x C
  | [], _, _, _, _, h => by simp at h
  | (y, F', ms') :: r, h, x, F, ms, hl => by
    rw [List.lookup_cons] at hl
    split at hl
    · rename_i hx
      cases hl
      have := beq_iff_eq.mp hx
      subst this
      exact h.1
    · exact MkAll.at_ h.2 x F ms hl
theorem BsAll.at_ : ∀ {l : List Str}, BsAll mg l → ∀ x ∈ l, mg x = none
  | [], _, _, h => by cases h
  | y :: r, h, x, hx => by
    rcases List.mem_cons.mp hx with e | e
    · subst e; exact h.1
    · exact BsAll.at_ h.2 x e
theorem KsAll.at_ : ∀ {l : List (Str × V × D)}, KsAll K mg l → ∀ x v d, l.lookup x = some (v, d) → ∃ u, mg x = some u ∧ RelV v u ∧ Dp K (fun _ => none) v d
  | [], _, _, _, _, h => by simp at h
  | (y, v', d') :: r, h, x, v, d, hl => by
    rw [List.lookup_cons] at hl
    split at hl
    · rename_i hx
      cases hl
      have := beq_iff_eq.mp hx
      subst this
      exact h.1
    · exact KsAll.at_ h.2 x v d hl
theorem clsAt_uniq {cl : Str} {C C' : Addr} (h : ClsAt K cl C) (h' : ClsAt K cl C') : C = C' := by
  have := h.symm.trans h'
  cases this; rfl
theorem TabAll.at_ {m : Str} : ∀ {l : List (Str × FD)}, TabAll P w K mg base k m l → ∀ cl F, l.lookup cl = some F → ∃ C f fd ps, ClsAt K cl C ∧ Cls K C ∧ Meth K C m f ∧ FnOk P w K mg base CX0 k f fd ps (spD K F) ∧ Binds K fd ps []
  | [], _, _, _, h => by simp at h
  | (y, F') :: r, h, x, F, hl => by
    rw [List.lookup_cons] at hl
    split at hl
    · rename_i hx
      cases hl
      have := beq_iff_eq.mp hx
      subst this
      exact h.1
    · exact TabAll.at_ h.2 x F hl
theorem MtAll.at_ : ∀ {l : List (Str × List (Str × FD) × List Bool)}, MtAll P w K mg base k l → ∀ m tab ms, l.lookup m = some (tab, ms) → TabAll P w K mg base k m tab
  | [], _, _, _, _, h => by simp at h
  | (y, F', ms') :: r, h, x, F, ms, hl => by
    rw [List.lookup_cons] at hl
    split at hl
    · rename_i hx
      cases hl
      have := beq_iff_eq.mp hx
      subst this
      exact h.1
    · exact MtAll.at_ h.2 x F ms hl
theorem FlAll.at_ : ∀ {l : List (Str × Str)}, FlAll K l → FlOk K l
  | [], _, _, _, _, h, _ => by cases h
  | (y, g) :: r, h, cl, f, C, hm, hC => by
    rcases List.mem_cons.mp hm with e | e
    · cases e
      obtain ⟨C', h1, h2, h3⟩ := h.1
      cases clsAt_uniq h1 hC
      exact ⟨h2, h3⟩
    · exact FlAll.at_ h.2 cl f C e hC
/-- what a def's compile knows: its names, the defs, the classes, the built-ins, the constants, the methods, the attributes -/
def mkT (N : List Str) (fsd fsc : List (Str × FD × List Bool)) (bs : List Str) (ks : List (Str × V × D)) (mts : List (Str × List (Str × FD) × List Bool)) (fl : List (Str × Str)) : CT := ⟨N, fsd ++ fsc, bs, ks, fsc.map (·.1), mts, fl⟩
theorem lookup_app {α : Type} : ∀ {a b : List (Str × α)} {x : Str} {y : α}, (a ++ b).lookup x = some y → (a.lookup x = some y ∧ x ∈ a.map (·.1)) ∨ (b.lookup x = some y ∧ x ∈ b.map (·.1))
  | [], [], _, _, h => by simp at h
  | [], (z, w) :: b, x, y, h => by
    have h0 : ((z, w) :: b).lookup x = some y := h
    refine .inr ⟨h0, ?_⟩
    clear h
    rw [List.lookup_cons] at h0
    split at h0
    · rename_i hx; rw [beq_iff_eq.mp hx]; exact List.mem_cons_self ..
    · rcases lookup_app (a := []) (b := b) h0 with h | h
      · cases h.2
      · exact List.mem_cons_of_mem _ h.2
  | (z, w) :: a, b, x, y, h => by
    have h0 : ((z, w) :: (a ++ b)).lookup x = some y := h
    rw [List.lookup_cons] at h0
    split at h0
    · rename_i hx
      refine .inl ⟨?_, by rw [beq_iff_eq.mp hx]; exact List.mem_cons_self ..⟩
      rw [List.lookup_cons]; simp only [hx]; exact h0
    · rename_i hx
      rcases lookup_app h0 with ⟨h1, h2⟩ | h
      · refine .inl ⟨?_, List.mem_cons_of_mem _ h2⟩
        rw [List.lookup_cons]; simp only [hx]; exact h1
      · exact .inr h
theorem mods {N : List Str} {fsd fsc : List (Str × FD × List Bool)} {bs : List Str} {ks : List (Str × V × D)} {mts : List (Str × List (Str × FD) × List Bool)} {fl : List (Str × Str)} (hd : (fsd.map (·.1)).all (fun x => !(fsc.map (·.1)).contains x) = true)
    (a : FsAll P w K mg base k fsd) (a2 : MkAll P w K mg base k fsc) (b : BsAll mg bs) (c : KsAll K mg ks) (d : MtAll P w K mg base k mts) (e : FlAll K fl) : Mods P w K mg base k (mkT N fsd fsc bs ks mts fl) := by
  refine ⟨fun x F ms h hc => ?_, fun x F ms h hc => ?_, fun m tab ms h C sp hS => ?_, fun x hx => ?_, e.at_, b.at_, c.at_⟩
  · rcases lookup_app h with ⟨h1, _⟩ | ⟨_, h2⟩
    · exact a.at_ x F ms h1
    · exact absurd h2 hc
  · rcases lookup_app h with ⟨_, h2⟩ | ⟨h1, _⟩
    · have := List.all_eq_true.mp hd x h2
      have hc' : x ∈ fsc.map (·.1) := hc
      simp only [Bool.not_eq_true', List.contains_eq_mem, decide_eq_false_iff_not] at this
      exact absurd hc' this
    · exact a2.at_ x F ms h1
  · obtain ⟨cl, F, h1, h2, rfl⟩ := hS
    obtain ⟨C', f, fd, ps, g1, g2, g3, g4, g5⟩ := (d.at_ m tab ms h).at_ cl F h1
    cases clsAt_uniq g1 h2
    exact ⟨g2, f, fd, ps, g3, g4, g5⟩
  · have hx' : x ∈ fsc.map (·.1) := hx
    clear hx a hd
    induction fsc with
    | nil => cases hx'
    | cons p r ih =>
      rcases List.mem_cons.mp hx' with h | h
      · subst h
        obtain ⟨j, C, f, fd, ps, _, _, _, _, _, g⟩ := a2.1
        exact ⟨C, g⟩
      · exact ih a2.2 h
theorem hcl_of {fl : List (Str × Str)} {cl : Str} {ins : List (Str × ME)} (h : FlAll K fl) (hall : (ins.map (·.1)).all (fun f => fl.contains (cl, f)) = true) (hne : ins ≠ []) : ∀ C, ClsAt K cl C → Cls K C ∧ ∀ f m, (f, m) ∈ ins → NoAttr K C f := by
  intro C hC
  have all : ∀ f m, (f, m) ∈ ins → Cls K C ∧ NoAttr K C f := fun f m hm => by
    have := List.all_eq_true.mp hall f (List.mem_map.mpr ⟨_, hm, rfl⟩)
    exact h.at_ cl f C (by simpa using this) hC
  refine ⟨?_, fun f m hm => (all f m hm).2⟩
  cases ins with
  | nil => exact absurd rfl hne
  | cons p r => exact (all p.1 p.2 (List.mem_cons_self ..)).1
end
theorem law_end {K : PySem.W.Frag} {F : FD} {H : Hp} {a : Addr} {ns : List Int} (hS : SqL K H a (ns.map V.int)) (h : ∃ f as', F [.s ns] = some (.v f (.bool true), as')) :
    spD K F [.ref a] H (fun v _ => v = .bl true) fun _ _ _ => False := by
  obtain ⟨f, as', h⟩ := h
  refine ⟨H, [.s ns], _, as', ⟨Same.refl _, rfl, fun k v t hv ht => ?_, fun k l p ok => ?_⟩, h, fun v G' H' P => ?_⟩
  · cases k with
    | zero => simp at hv ht; subst hv ht; exact ⟨a, rfl, hS⟩
    | succ k => simp at hv
  · obtain ⟨x1, x2, x3, x4, z⟩ := ok
    cases k with
    | zero => simp at z
    | succ k => simp at z
  · have := P.res
    exact dp_bool (Rv.dp (G := G') (f := f) this)
end DL
end
section
set_option maxHeartbeats 4000000
/-! DL16: to compute with the semantics. -/
namespace DL
open PySem PySem.Spec PyProof.Rows L2

/-! ### evaluation: each construct by what its parts have given (no binder stands open) -/
def K1 {α β : Type} (f : α → Option β) : Option α → Option β
  | none => none
  | some x => f x
theorem bind_K1 {α β : Type} (a : Option α) (f : α → Option β) : a.bind f = K1 f a := by cases a <;> rfl
theorem x02 {α β : Type} (f : α → Option β) (x : α) : K1 f (some x) = f x := rfl

-- settle, esc
def stK : Option (RV × EnvD) → Option (RV × EnvD) := Option.map stl
theorem x9h {m : ME} {e : EnvD} : settle m e = stK (m e) := rfl
theorem xa1 {f : Bool} {x : D} {e : EnvD} : stK (some (.val f x, e)) = some (.val f x, e) := rfl
theorem xa0 {i : Nat} {e : EnvD} : stK (some (.own i, e)) = some (.own i, e) := rfl
theorem x9y {f : Bool} {xs : List D} {e : EnvD} : stK (some (.new f xs, e)) = some (.val f (.list xs), e) := rfl
theorem x9z {f : Bool} {cl : Str} {fs : List (Str × D)} {e : EnvD} : stK (some (.ob f cl fs, e)) = some (.ob f cl fs, e) := rfl
theorem x9x {x : D} {e : EnvD} : stK (some (.ext x, e)) = some (.ext x, e) := rfl
def esK : Option (RV × EnvD) → Option ((Bool × D) × EnvD)
  | none => none
  | some p => esc p
theorem x33 {m : ME} {e : EnvD} : mEsc m e = esK (m e) := by unfold mEsc; cases m e <;> rfl
theorem x30 {f : Bool} {x : D} {e : EnvD} : esK (some (.val f x, e)) = some ((f, x), e) := rfl
theorem x2y {f : Bool} {xs : List D} {e : EnvD} : esK (some (.new f xs, e)) = some ((f, .list xs), e) := rfl
def esO (i : Nat) (e : EnvD) : Option Sl → Option ((Bool × D) × EnvD)
  | some (.v f x) => some ((f, x), e)
  | some (.o false false f xs) => some ((f, .list xs), e.set i (.v f (.list xs)))
  | _ => none
theorem x2z {i : Nat} {e : EnvD} : esK (some (.own i, e)) = esO i e e[i]? := by
  show esc (.own i, e) = _
  unfold esc esO
  rfl
theorem x32 {i : Nat} {e : EnvD} {f : Bool} {x : D} : esO i e (some (.v f x)) = some ((f, x), e) := rfl
theorem x31 {i : Nat} {e : EnvD} {f : Bool} {xs : List D} : esO i e (some (.o false false f xs)) = some ((f, .list xs), e.set i (.v f (.list xs))) := rfl
-- the data of a value
def gdS : Option Sl → Option D
  | some (.v _ x) => some x
  | some (.o _ _ _ xs) => some (.list xs)
  | some (.s ns) => some (.list (ns.map PyData.int))
  | _ => none
theorem x52 {f : Bool} {x : D} {e : EnvD} : getD (.val f x) e = some x := rfl
theorem x50 {f : Bool} {x : List D} {e : EnvD} : getD (.new f x) e = some (.list x) := rfl
theorem x4z {x : D} {e : EnvD} : getD (.ext x) e = some x := rfl
theorem x51 {i : Nat} {e : EnvD} : getD (.own i) e = gdS e[i]? := by unfold getD gdS; rfl
theorem x4y {f : Bool} {x : D} : gdS (some (.v f x)) = some x := rfl
theorem x4w {a b f : Bool} {x : List D} : gdS (some (.o a b f x)) = some (.list x) := rfl
theorem x4x {ns : List Int} : gdS (some (.s ns)) = some (.list (ns.map PyData.int)) := rfl
def vwS : Option Sl → Option (Bool × Bool × List D)
  | some (.v f (.list xs)) => some (false, f, xs)
  | some (.v f (.tuple xs)) => some (true, f, xs)
  | some (.o _ _ f xs) => some (false, f, xs)
  | some (.s ns) => some (false, true, ns.map PyData.int)
  | _ => none
theorem xbh {f : Bool} {x : List D} {e : EnvD} : view (.val f (.list x)) e = some (false, f, x) := rfl
theorem xbm {f : Bool} {x : List D} {e : EnvD} : view (.val f (.tuple x)) e = some (true, f, x) := rfl
theorem xbi {f : Bool} {x : List D} {e : EnvD} : view (.new f x) e = some (false, f, x) := rfl
theorem xbf {x : D} {e : EnvD} : view (.ext x) e = none := rfl
theorem xbg {f : Bool} {x : Int} {e : EnvD} : view (.val f (.int x)) e = none := rfl
theorem xbe {f : Bool} {x : Bool} {e : EnvD} : view (.val f (.bool x)) e = none := rfl
theorem xbj {f : Bool} {e : EnvD} : view (.val f .none) e = none := rfl
theorem xbl {f : Bool} {x : Str} {e : EnvD} : view (.val f (.str x)) e = none := rfl
theorem xbk {i : Nat} {e : EnvD} : view (.own i) e = vwS e[i]? := by unfold view vwS; rfl
theorem xba {f : Bool} {x : List D} : vwS (some (.v f (.list x))) = some (false, f, x) := rfl
theorem xbd {f : Bool} {x : List D} : vwS (some (.v f (.tuple x))) = some (true, f, x) := rfl
theorem xbb {a b f : Bool} {x : List D} : vwS (some (.o a b f x)) = some (false, f, x) := rfl
theorem xbc {ns : List Int} : vwS (some (.s ns)) = some (false, true, ns.map PyData.int) := rfl
def lvS : Option Sl → Option (Bool × List D)
  | some (.v f (.list xs)) => some (f, xs)
  | some (.o _ _ f xs) => some (f, xs)
  | _ => none
theorem x7b {f : Bool} {x : List D} {e : EnvD} : lview (.val f (.list x)) e = some (f, x) := rfl
theorem x7c {f : Bool} {x : List D} {e : EnvD} : lview (.new f x) e = some (f, x) := rfl
theorem x7a {f : Bool} {x : Int} {e : EnvD} : lview (.val f (.int x)) e = none := rfl
theorem x7e {f : Bool} {x : Str} {e : EnvD} : lview (.val f (.str x)) e = none := rfl
theorem x7d {i : Nat} {e : EnvD} : lview (.own i) e = lvS e[i]? := by unfold lview lvS; rfl
theorem x78 {f : Bool} {x : List D} : lvS (some (.v f (.list x))) = some (f, x) := rfl
theorem x79 {a b f : Bool} {x : List D} : lvS (some (.o a b f x)) = some (f, x) := rfl
-- names, constants
def vrS (i : Nat) (e : EnvD) : Option Sl → Option (RV × EnvD)
  | some (.v f x) => some (.val f x, e)
  | some (.o _ _ _ _) => some (.own i, e)
  | some (.s _) => some (.own i, e)
  | some (.ob f cl fs) => some (.ob f cl fs, e)
  | _ => none
theorem xb5 {i : Nat} {e : EnvD} : mVar i e = vrS i e e[i]? := by unfold mVar vrS; rfl
theorem xb9 {i : Nat} {e : EnvD} {f : Bool} {x : D} : vrS i e (some (.v f x)) = some (.val f x, e) := rfl
theorem xb6 {i : Nat} {e : EnvD} {a b f : Bool} {x : List D} : vrS i e (some (.o a b f x)) = some (.own i, e) := rfl
theorem xb8 {i : Nat} {e : EnvD} {ns : List Int} : vrS i e (some (.s ns)) = some (.own i, e) := rfl
theorem xb7 {i : Nat} {e : EnvD} {f : Bool} {cl : Str} {fs : List (Str × D)} : vrS i e (some (.ob f cl fs)) = some (.ob f cl fs, e) := rfl
theorem x00 {x : D} {e : EnvD} : mC x e = some (.val true x, e) := rfl
theorem x01 {x : D} {e : EnvD} : mK x e = some (.ext x, e) := rfl
-- scalars out
def outK (e : EnvD) : Option D → Option (RV × EnvD)
  | some z => some (.val true z, e)
  | none => none
theorem x8j {e : EnvD} {z : D} : outK e (some z) = some (.val true z, e) := rfl
def op2 (op : D → D → Option D) : Option D → Option D → Option D
  | some x, some y => op x y
  | _, _ => none
theorem x8c {op : D → D → Option D} {x y : D} : op2 op (some x) (some y) = op x y := rfl
def bn2 (op : D → D → Option D) (r : RV) : Option (RV × EnvD) → Option (RV × EnvD)
  | some q => outK q.2 (op2 op (getD r q.2) (getD q.1 q.2))
  | none => none
def bn1 (op : D → D → Option D) (b : ME) : Option (RV × EnvD) → Option (RV × EnvD)
  | some p => bn2 op p.1 (settle b p.2)
  | none => none
theorem x18 {op : D → D → Option D} {a b : ME} {e : EnvD} : mBin op a b e = bn1 op b (settle a e) := by
  unfold mBin
  cases settle a e with
  | none => rfl
  | some p =>
    show _ = bn2 op p.1 (settle b p.2)
    simp only [Option.bind_some]
    cases settle b p.2 with
    | none => rfl
    | some q =>
      simp only [Option.bind_some]
      show _ = outK q.2 (op2 op (getD p.1 q.2) (getD q.1 q.2))
      cases getD p.1 q.2 with
      | none => rfl
      | some x =>
        cases getD q.1 q.2 with
        | none => rfl
        | some y =>
          simp only [Option.bind_some, x8c]
          cases op x y <;> rfl
theorem x19 {op : D → D → Option D} {b : ME} {r : RV} {e : EnvD} : bn1 op b (some (r, e)) = bn2 op r (settle b e) := rfl
theorem x1a {op : D → D → Option D} {r q : RV} {e : EnvD} : bn2 op r (some (q, e)) = outK e (op2 op (getD r e) (getD q e)) := rfl
def un1 (op : D → Option D) : Option (RV × EnvD) → Option (RV × EnvD)
  | some p => outK p.2 (K1 op (getD p.1 p.2))
  | none => none
theorem xb3 {op : D → Option D} {a : ME} {e : EnvD} : mUn op a e = un1 op (a e) := by
  unfold mUn
  cases a e with
  | none => rfl
  | some p =>
    simp only [Option.bind_some]
    show _ = outK p.2 (K1 op (getD p.1 p.2))
    cases getD p.1 p.2 with
    | none => rfl
    | some x =>
      simp only [Option.bind_some, x02]
      cases op x <;> rfl
theorem xb4 {op : D → Option D} {r : RV} {e : EnvD} : un1 op (some (r, e)) = outK e (K1 op (getD r e)) := rfl
-- and, or, not
def an2 (b : ME) (e : EnvD) : Option D → Option (RV × EnvD)
  | some (.bool true) => b e
  | some (.bool false) => some (.val true (.bool false), e)
  | _ => none
def an1 (b : ME) : Option (RV × EnvD) → Option (RV × EnvD)
  | some p => an2 b p.2 (getD p.1 p.2)
  | none => none
theorem x0j {a b : ME} {e : EnvD} : mAnd a b e = an1 b (a e) := by
  unfold mAnd
  cases a e <;> rfl
theorem x0g {b : ME} {r : RV} {e : EnvD} : an1 b (some (r, e)) = an2 b e (getD r e) := rfl
theorem x0i {b : ME} {e : EnvD} : an2 b e (some (.bool true)) = b e := rfl
theorem x0h {b : ME} {e : EnvD} : an2 b e (some (.bool false)) = some (.val true (.bool false), e) := rfl
def or2 (b : ME) (e : EnvD) : Option D → Option (RV × EnvD)
  | some (.bool false) => b e
  | some (.bool true) => some (.val true (.bool true), e)
  | _ => none
def or1 (b : ME) : Option (RV × EnvD) → Option (RV × EnvD)
  | some p => or2 b p.2 (getD p.1 p.2)
  | none => none
theorem x8d {a b : ME} {e : EnvD} : mOr a b e = or1 b (a e) := by
  unfold mOr
  cases a e <;> rfl
theorem x8e {b : ME} {r : RV} {e : EnvD} : or1 b (some (r, e)) = or2 b e (getD r e) := rfl
theorem x8g {b : ME} {e : EnvD} : or2 b e (some (.bool true)) = some (.val true (.bool true), e) := rfl
theorem x8f {b : ME} {e : EnvD} : or2 b e (some (.bool false)) = b e := rfl
def nt2 (e : EnvD) : Option D → Option (RV × EnvD)
  | some (.bool b) => some (.val true (.bool (!b)), e)
  | _ => none
def nt1 : Option (RV × EnvD) → Option (RV × EnvD)
  | some p => nt2 p.2 (getD p.1 p.2)
  | none => none
theorem x82 {a : ME} {e : EnvD} : mNot a e = nt1 (a e) := by
  unfold mNot
  cases a e <;> rfl
theorem x83 {r : RV} {e : EnvD} : nt1 (some (r, e)) = nt2 e (getD r e) := rfl
theorem x84 {b : Bool} {e : EnvD} : nt2 e (some (.bool b)) = some (.val true (.bool (!b)), e) := rfl
-- tests
def ts2 (e : EnvD) : Option D → Option (Bool × EnvD)
  | some (.bool b) => some (b, e)
  | _ => none
def ts1 : Option (RV × EnvD) → Option (Bool × EnvD)
  | some p => ts2 p.2 (getD p.1 p.2)
  | none => none
theorem xat {m : ME} {e : EnvD} : tst m e = ts1 (m e) := by
  unfold tst
  cases m e <;> rfl
theorem xar {r : RV} {e : EnvD} : ts1 (some (r, e)) = ts2 e (getD r e) := rfl
theorem xas {b : Bool} {e : EnvD} : ts2 e (some (.bool b)) = some (b, e) := rfl
def ta1 (b : MT) : Option (Bool × EnvD) → Option (Bool × EnvD)
  | some p => if p.1 = true then b p.2 else some (false, p.2)
  | none => none
theorem xal {a b : MT} {e : EnvD} : mtAnd a b e = ta1 b (a e) := by unfold mtAnd; cases a e <;> rfl
theorem xak {b : MT} {t : Bool} {e : EnvD} : ta1 b (some (t, e)) = if t = true then b e else some (false, e) := rfl
def to1 (b : MT) : Option (Bool × EnvD) → Option (Bool × EnvD)
  | some p => if p.1 = true then some (true, p.2) else b p.2
  | none => none
theorem xap {a b : MT} {e : EnvD} : mtOr a b e = to1 b (a e) := by unfold mtOr; cases a e <;> rfl
theorem xao {b : MT} {t : Bool} {e : EnvD} : to1 b (some (t, e)) = if t = true then some (true, e) else b e := rfl
def tn1 : Option (Bool × EnvD) → Option (Bool × EnvD)
  | some p => some (!p.1, p.2)
  | none => none
theorem xan {a : MT} {e : EnvD} : mtNot a e = tn1 (a e) := by unfold mtNot; cases a e <;> rfl
theorem xam {t : Bool} {e : EnvD} : tn1 (some (t, e)) = some (!t, e) := rfl
theorem xeh {e : EnvD} : mtYes e = some (true, e) := rfl
-- +
def ad4 (e : EnvD) (f f' : Bool) (xs ys : List D) : Option (RV × EnvD) := if xs.length + ys.length ≤ sizeLine then some (.new ((f || xs.all sc) && (f' || ys.all sc)) (xs ++ ys), e) else none
def ad3 (r q : RV) (e : EnvD) : Option (Bool × List D) → Option (Bool × List D) → Option (RV × EnvD)
  | some a, some b => ad4 e a.1 b.1 a.2 b.2
  | _, _ => outK e (op2 dAddS (getD r e) (getD q e))
def ad2 (r : RV) : Option (RV × EnvD) → Option (RV × EnvD)
  | some q => ad3 r q.1 q.2 (lview r q.2) (lview q.1 q.2)
  | none => none
def ad1 (b : ME) : Option (RV × EnvD) → Option (RV × EnvD)
  | some p => ad2 p.1 (settle b p.2)
  | none => none
theorem x07 {a b : ME} {e : EnvD} : mAdd a b e = ad1 b (settle a e) := by
  unfold mAdd
  cases settle a e with
  | none => rfl
  | some p =>
    show _ = ad2 p.1 (settle b p.2)
    simp only [Option.bind_some]
    cases settle b p.2 with
    | none => rfl
    | some q =>
      simp only [Option.bind_some]
      show _ = ad3 p.1 q.1 q.2 (lview p.1 q.2) (lview q.1 q.2)
      have oth : (getD p.1 q.2).bind (fun x => (getD q.1 q.2).bind fun y => (dAddS x y).map fun z => (RV.val true z, q.2)) = outK q.2 (op2 dAddS (getD p.1 q.2) (getD q.1 q.2)) := by
        cases getD p.1 q.2 with
        | none => rfl
        | some x =>
          cases getD q.1 q.2 with
          | none => rfl
          | some y =>
            simp only [Option.bind_some, x8c]
            cases dAddS x y <;> rfl
      cases lview p.1 q.2 with
      | none => exact oth
      | some a =>
        cases lview q.1 q.2 with
        | none => exact oth
        | some b => rfl
theorem x03 {b : ME} {r : RV} {e : EnvD} : ad1 b (some (r, e)) = ad2 r (settle b e) := rfl
theorem x04 {r q : RV} {e : EnvD} : ad2 r (some (q, e)) = ad3 r q e (lview r e) (lview q e) := rfl
theorem x05 {r q : RV} {e : EnvD} {f f' : Bool} {xs ys : List D} : ad3 r q e (some (f, xs)) (some (f', ys)) = if xs.length + ys.length ≤ sizeLine then some (.new ((f || xs.all sc) && (f' || ys.all sc)) (xs ++ ys), e) else none := rfl
theorem x06 {r q : RV} {e : EnvD} {y : Option (Bool × List D)} : ad3 r q e none y = outK e (op2 dAddS (getD r e) (getD q e)) := by cases y <;> rfl
theorem x08 {i j : Int} : dAddS (.int i) (.int j) = some (.int (i + j)) := rfl
theorem x09 {i j : Str} : dAddS (.str i) (.str j) = if i.length + j.length ≤ sizeLine then some (.str (i ++ j)) else none := rfl
-- a[i]
def ixO (f : Bool) (e : EnvD) : Option D → Option (RV × EnvD)
  | some x => some (.val f x, e)
  | none => none
theorem x6j {f : Bool} {e : EnvD} {x : D} : ixO f e (some x) = some (.val f x, e) := rfl
def ix5 (i : Int) (e : EnvD) : Option D → Option (RV × EnvD)
  | some (.str z) => ixO true e (dIxS z i)
  | _ => none
def ix4 (i : Int) (r : RV) (e : EnvD) : Option (Bool × Bool × List D) → Option (RV × EnvD)
  | some t => ixO t.2.1 e (atI t.2.2 i)
  | none => ix5 i e (getD r e)
def ix3 (r : RV) (e : EnvD) : Option D → Option (RV × EnvD)
  | some (.int i) => ix4 i r e (view r e)
  | _ => none
def ix2 (r : RV) : Option (RV × EnvD) → Option (RV × EnvD)
  | some q => ix3 r q.2 (getD q.1 q.2)
  | none => none
def ix1 (b : ME) : Option (RV × EnvD) → Option (RV × EnvD)
  | some p => ix2 p.1 (settle b p.2)
  | none => none
theorem x6c {a b : ME} {e : EnvD} : mIx a b e = ix1 b (settle a e) := by
  unfold mIx
  cases settle a e with
  | none => rfl
  | some p =>
    show _ = ix2 p.1 (settle b p.2)
    simp only [Option.bind_some]
    cases settle b p.2 with
    | none => rfl
    | some q =>
      simp only [Option.bind_some]
      show _ = ix3 p.1 q.2 (getD q.1 q.2)
      generalize getD q.1 q.2 = w
      cases w with
      | none => rfl
      | some w =>
        cases w with
        | int i =>
          show _ = ix4 i p.1 q.2 (view p.1 q.2)
          simp only []
          cases view p.1 q.2 with
          | none =>
            show _ = ix5 i q.2 (getD p.1 q.2)
            simp only []
            generalize getD p.1 q.2 = u
            cases u with
            | none => rfl
            | some u =>
              cases u with
              | str z =>
                show _ = ixO true q.2 (dIxS z i)
                simp only []
                cases dIxS z i <;> rfl
              | _ => rfl
          | some t =>
            obtain ⟨t1, t2, t3⟩ := t
            show Option.map _ (atI t3 i) = ixO t2 q.2 (atI t3 i)
            cases atI t3 i <;> rfl
        | _ => rfl
theorem x6d {b : ME} {r : RV} {e : EnvD} : ix1 b (some (r, e)) = ix2 r (settle b e) := rfl
theorem x6e {r q : RV} {e : EnvD} : ix2 r (some (q, e)) = ix3 r e (getD q e) := rfl
theorem x6f {r : RV} {e : EnvD} {i : Int} : ix3 r e (some (.int i)) = ix4 i r e (view r e) := rfl
theorem x6g {i : Int} {r : RV} {e : EnvD} {t f : Bool} {xs : List D} : ix4 i r e (some (t, f, xs)) = ixO f e (atI xs i) := rfl
theorem x6h {i : Int} {r : RV} {e : EnvD} : ix4 i r e none = ix5 i e (getD r e) := rfl
theorem x6i {i : Int} {z : Str} {e : EnvD} : ix5 i e (some (.str z)) = ixO true e (dIxS z i) := rfl
-- rows of values
def ec2 (p : Bool × D) : Option (List (Bool × D) × EnvD) → Option (List (Bool × D) × EnvD)
  | some q => some (p :: q.1, q.2)
  | none => none
def ec1 (r : MEs) : Option ((Bool × D) × EnvD) → Option (List (Bool × D) × EnvD)
  | some p => ec2 p.1 (r p.2)
  | none => none
theorem x2q {e : EnvD} : eNil e = some ([], e) := rfl
theorem x2p {a : ME} {r : MEs} {e : EnvD} : eCons a r e = ec1 r (mEsc a e) := by
  unfold eCons
  cases mEsc a e with
  | none => rfl
  | some p =>
    simp only [Option.bind_some]
    show _ = ec2 p.1 (r p.2)
    cases r p.2 <;> rfl
theorem x2r {r : MEs} {p : Bool × D} {e : EnvD} : ec1 r (some (p, e)) = ec2 p (r e) := rfl
theorem x2s {p : Bool × D} {q : List (Bool × D)} {e : EnvD} : ec2 p (some (q, e)) = some (p :: q, e) := rfl
def tp1 : Option (List (Bool × D) × EnvD) → Option (RV × EnvD)
  | some p => if p.1.length ≤ sizeLine then some (.val (flagOf p.1) (.tuple (p.1.map (·.2))), p.2) else none
  | none => none
theorem xav {m : MEs} {e : EnvD} : mTup m e = tp1 (m e) := by unfold mTup; cases m e <;> rfl
theorem xaq {p : List (Bool × D)} {e : EnvD} : tp1 (some (p, e)) = if p.length ≤ sizeLine then some (.val (flagOf p) (.tuple (p.map (·.2))), e) else none := rfl
def ls1 : Option (List (Bool × D) × EnvD) → Option (RV × EnvD)
  | some p => if p.1.length ≤ sizeLine then some (.new (flagOf p.1) (p.1.map (·.2)), p.2) else none
  | none => none
theorem x77 {m : MEs} {e : EnvD} : mLst m e = ls1 (m e) := by unfold mLst; cases m e <;> rfl
theorem x76 {p : List (Bool × D)} {e : EnvD} : ls1 (some (p, e)) = if p.length ≤ sizeLine then some (.new (flagOf p) (p.map (·.2)), e) else none := rfl
theorem x3m : flagOf [] = true := rfl
theorem x3l {p : Bool × D} {ps : List (Bool × D)} : flagOf (p :: ps) = ((p.1 || sc p.2) && flagOf ps) := rfl
theorem xa3 : (0 ≤ sizeLine) = True := by rw [sizeLine_eq]; exact eq_true (by decide)
theorem xa4 : (1 ≤ sizeLine) = True := by rw [sizeLine_eq]; exact eq_true (by decide)
theorem xab : (2 ≤ sizeLine) = True := by rw [sizeLine_eq]; exact eq_true (by decide)
theorem xac : (3 ≤ sizeLine) = True := by rw [sizeLine_eq]; exact eq_true (by decide)
theorem xad : (4 ≤ sizeLine) = True := by rw [sizeLine_eq]; exact eq_true (by decide)
theorem xae : (5 ≤ sizeLine) = True := by rw [sizeLine_eq]; exact eq_true (by decide)
theorem xaf : (6 ≤ sizeLine) = True := by rw [sizeLine_eq]; exact eq_true (by decide)
theorem xag : (7 ≤ sizeLine) = True := by rw [sizeLine_eq]; exact eq_true (by decide)
theorem xah : (8 ≤ sizeLine) = True := by rw [sizeLine_eq]; exact eq_true (by decide)
theorem xai : (9 ≤ sizeLine) = True := by rw [sizeLine_eq]; exact eq_true (by decide)
theorem xa5 : (10 ≤ sizeLine) = True := by rw [sizeLine_eq]; exact eq_true (by decide)
theorem xa6 : (11 ≤ sizeLine) = True := by rw [sizeLine_eq]; exact eq_true (by decide)
theorem xa7 : (12 ≤ sizeLine) = True := by rw [sizeLine_eq]; exact eq_true (by decide)
theorem xa8 : (13 ≤ sizeLine) = True := by rw [sizeLine_eq]; exact eq_true (by decide)
theorem xa9 : (14 ≤ sizeLine) = True := by rw [sizeLine_eq]; exact eq_true (by decide)
theorem xaa : (15 ≤ sizeLine) = True := by rw [sizeLine_eq]; exact eq_true (by decide)
theorem xaj : (0 < sizeLine) = True := by rw [sizeLine_eq]; exact eq_true (by decide)
-- slices
theorem x89 {e : EnvD} : oNone e = some (none, e) := rfl
def os2 (e : EnvD) : Option D → Option (Option Int × EnvD)
  | some (.int i) => some (some i, e)
  | _ => none
def os1 : Option (RV × EnvD) → Option (Option Int × EnvD)
  | some p => os2 p.2 (getD p.1 p.2)
  | none => none
theorem x8a {a : ME} {e : EnvD} : oSome a e = os1 (a e) := by unfold oSome; cases a e <;> rfl
theorem x8h {r : RV} {e : EnvD} : os1 (some (r, e)) = os2 e (getD r e) := rfl
theorem x8i {i : Int} {e : EnvD} : os2 e (some (.int i)) = some (some i, e) := rfl
def sl5 (l u : Option Int) (e : EnvD) : Option D → Option (RV × EnvD)
  | some (.str z) => if z.length ≤ sizeLine then some (.val true (.str (cutS z l u)), e) else none
  | _ => none
def sl4 (r : RV) (l u : Option Int) (e : EnvD) : Option (Bool × Bool × List D) → Option (RV × EnvD)
  | some (false, f, xs) => some (.new f (cutD xs l u), e)
  | _ => sl5 l u e (getD r e)
def sl3 (r : RV) (l : Option Int) : Option (Option Int × EnvD) → Option (RV × EnvD)
  | some u => sl4 r l u.1 u.2 (view r u.2)
  | none => none
def sl2 (r : RV) (hi : MO) : Option (Option Int × EnvD) → Option (RV × EnvD)
  | some l => sl3 r l.1 (hi l.2)
  | none => none
def sl1 (lo hi : MO) : Option (RV × EnvD) → Option (RV × EnvD)
  | some p => sl2 p.1 hi (lo p.2)
  | none => none
theorem x9m {a : ME} {lo hi : MO} {e : EnvD} : mSl a lo hi e = sl1 lo hi (settle a e) := by
  unfold mSl
  cases settle a e with
  | none => rfl
  | some p =>
    simp only [Option.bind_some]
    show _ = sl2 p.1 hi (lo p.2)
    cases lo p.2 with
    | none => rfl
    | some l =>
      simp only [Option.bind_some]
      show _ = sl3 p.1 l.1 (hi l.2)
      cases hi l.2 with
      | none => rfl
      | some u => rfl
theorem x9n {lo hi : MO} {r : RV} {e : EnvD} : sl1 lo hi (some (r, e)) = sl2 r hi (lo e) := rfl
theorem x9o {hi : MO} {r : RV} {l : Option Int} {e : EnvD} : sl2 r hi (some (l, e)) = sl3 r l (hi e) := rfl
theorem x9p {r : RV} {l u : Option Int} {e : EnvD} : sl3 r l (some (u, e)) = sl4 r l u e (view r e) := rfl
theorem x9q {r : RV} {l u : Option Int} {e : EnvD} {f : Bool} {xs : List D} : sl4 r l u e (some (false, f, xs)) = some (.new f (cutD xs l u), e) := rfl
theorem x9r {r : RV} {l u : Option Int} {e : EnvD} : sl4 r l u e none = sl5 l u e (getD r e) := rfl
theorem x9s {l u : Option Int} {e : EnvD} {z : Str} : sl5 l u e (some (.str z)) = if z.length ≤ sizeLine then some (.val true (.str (cutS z l u)), e) else none := rfl
-- list(x)
def li2 (e : EnvD) : Option (Bool × Bool × List D) → Option (RV × EnvD)
  | some (_, f, xs) => some (.new f xs, e)
  | none => none
def li1 : Option (RV × EnvD) → Option (RV × EnvD)
  | some p => li2 p.2 (view p.1 p.2)
  | none => none
theorem x6x {a : ME} {e : EnvD} : mList a e = li1 (a e) := by unfold mList; cases a e <;> rfl
theorem x6v {r : RV} {e : EnvD} : li1 (some (r, e)) = li2 e (view r e) := rfl
theorem x6w {e : EnvD} {t f : Bool} {xs : List D} : li2 e (some (t, f, xs)) = some (.new f xs, e) := rfl
-- chains
def ch4 (op' : D → D → Option D) (q : RV) : Option (RV × EnvD) → Option (RV × EnvD)
  | some r => outK r.2 (op2 op' (getD q r.2) (getD r.1 r.2))
  | none => none
def ch3 (op' : D → D → Option D) (d : ME) (q : RV) (e : EnvD) : Option D → Option (RV × EnvD)
  | some (.bool true) => ch4 op' q (d e)
  | some (.bool false) => some (.val true (.bool false), e)
  | _ => none
def ch2 (op op' : D → D → Option D) (d : ME) (p : RV) : Option (RV × EnvD) → Option (RV × EnvD)
  | some q => ch3 op' d q.1 q.2 (op2 op (getD p q.2) (getD q.1 q.2))
  | none => none
def ch1 (op op' : D → D → Option D) (b d : ME) : Option (RV × EnvD) → Option (RV × EnvD)
  | some p => ch2 op op' d p.1 (settle b p.2)
  | none => none
theorem x20 {op op' : D → D → Option D} {a b d : ME} {e : EnvD} : mChain op op' a b d e = ch1 op op' b d (settle a e) := by
  unfold mChain
  cases settle a e with
  | none => rfl
  | some p =>
    simp only [Option.bind_some]
    show _ = ch2 op op' d p.1 (settle b p.2)
    cases settle b p.2 with
    | none => rfl
    | some q =>
      simp only [Option.bind_some]
      show _ = ch3 op' d q.1 q.2 (op2 op (getD p.1 q.2) (getD q.1 q.2))
      cases getD p.1 q.2 with
      | none => rfl
      | some x =>
        cases hy : getD q.1 q.2 with
        | none => rfl
        | some y =>
          simp only [Option.bind_some, x8c]
          generalize op x y = w
          cases w with
          | none => rfl
          | some w =>
            cases w with
            | bool b =>
              cases b with
              | false => rfl
              | true =>
                show _ = ch4 op' q.1 (d q.2)
                simp only []
                cases d q.2 with
                | none => rfl
                | some r =>
                  simp only [Option.bind_some]
                  show _ = outK r.2 (op2 op' (getD q.1 r.2) (getD r.1 r.2))
                  cases getD q.1 r.2 with
                  | none => rfl
                  | some x' =>
                    cases getD r.1 r.2 with
                    | none => rfl
                    | some y' =>
                      simp only [Option.bind_some, x8c]
                      cases op' x' y' <;> rfl
            | _ => rfl
theorem x1v {op op' : D → D → Option D} {b d : ME} {p : RV} {e : EnvD} : ch1 op op' b d (some (p, e)) = ch2 op op' d p (settle b e) := rfl
theorem x1w {op op' : D → D → Option D} {d : ME} {p q : RV} {e : EnvD} : ch2 op op' d p (some (q, e)) = ch3 op' d q e (op2 op (getD p e) (getD q e)) := rfl
theorem x1y {op' : D → D → Option D} {d : ME} {q : RV} {e : EnvD} : ch3 op' d q e (some (.bool true)) = ch4 op' q (d e) := rfl
theorem x1x {op' : D → D → Option D} {d : ME} {q : RV} {e : EnvD} : ch3 op' d q e (some (.bool false)) = some (.val true (.bool false), e) := rfl
theorem x1z {op' : D → D → Option D} {q r : RV} {e : EnvD} : ch4 op' q (some (r, e)) = outK e (op2 op' (getD q e) (getD r e)) := rfl

/-! ### loops -/
/-- a turn that goes on -/
def goOn : Out → Option EnvD
  | .nx e => some e
  | .ct e => some e
  | _ => none
theorem forLoop_nil {tg : Tg} {body : MS} {f : Bool} {e : EnvD} : forLoop tg body f [] e = some (.nx e) := rfl
theorem forLoop_go {tg : Tg} {body : MS} {f : Bool} {x : D} {xs : List D} {e e1 e2 : EnvD} {o : Out} (h1 : bindT tg f x e = some e1) (h2 : body e1 = some o) (h3 : goOn o = some e2) :
    forLoop tg body f (x :: xs) e = forLoop tg body f xs e2 := by
  conv => lhs; unfold forLoop
  rw [h1, Option.bind_some, h2, Option.bind_some]
  cases o <;> first | (cases h3; rfl) | cases h3
theorem forLoop_rt {tg : Tg} {body : MS} {f : Bool} {x : D} {xs : List D} {e e1 e2 : EnvD} {r : RV} (h1 : bindT tg f x e = some e1) (h2 : body e1 = some (.rt r e2)) :
    forLoop tg body f (x :: xs) e = some (.rt r e2) := by
  conv => lhs; unfold forLoop
  rw [h1, Option.bind_some, h2, Option.bind_some]
theorem forLoop_bk {tg : Tg} {body : MS} {f : Bool} {x : D} {xs : List D} {e e1 e2 : EnvD} (h1 : bindT tg f x e = some e1) (h2 : body e1 = some (.bk e2)) :
    forLoop tg body f (x :: xs) e = some (.nx e2) := by
  conv => lhs; unfold forLoop
  rw [h1, Option.bind_some, h2, Option.bind_some]
/-- one turn: what is bound, the body, where it goes on -/
def turn (tg : Tg) (body : MS) (f : Bool) (x : D) (e : EnvD) : Option Out := (bindT tg f x e).bind body
theorem forLoop_cons {tg : Tg} {body : MS} {f : Bool} {x : D} {xs : List D} {e : EnvD} : forLoop tg body f (x :: xs) e = (turn tg body f x e).bind fun o => match o with
    | .nx e2 => forLoop tg body f xs e2
    | .ct e2 => forLoop tg body f xs e2
    | .bk e2 => some (.nx e2)
    | .rt r e2 => some (.rt r e2) := by
  conv => lhs; unfold forLoop
  unfold turn
  cases bindT tg f x e <;> rfl
/-- a loop that carries a state -/
theorem forLoop_fold {S α : Type} {tg : Tg} {body : MS} {f : Bool} (en : S → EnvD) (dt : α → D) (step : S → α → S) (P : S → Prop) : ∀ (xs : List α) (s : S), P s →
    (∀ s x, x ∈ xs → P s → ((turn tg body f (dt x) (en s)).bind goOn = some (en (step s x)) ∧ P (step s x))) → forLoop tg body f (xs.map dt) (en s) = some (.nx (en (xs.foldl step s))) ∧ P (xs.foldl step s)
  | [], s, hp, h => ⟨rfl, hp⟩
  | x :: xs, s, hp, h => by
    obtain ⟨h1, h2⟩ := h s x (List.mem_cons_self ..) hp
    obtain ⟨o, h3, h4⟩ := Option.bind_eq_some_iff.mp h1
    rw [List.map_cons, forLoop_cons, h3, Option.bind_some]
    have ih := forLoop_fold en dt step P xs (step s x) h2 fun s y hy => h s y (List.mem_cons_of_mem _ hy)
    cases o <;> first | (cases h4; exact ih) | cases h4
/-- one item of a comprehension -/
def lcOne (tg : Tg) (tt : MT) (te : ME) (vs : List Nat) (f : Bool) (x : D) (e : EnvD) : Option (Option (Bool × D) × EnvD) := (bindT tg f x e).bind fun e1 => (tt e1).bind fun p =>
      if p.1 = true then (mEsc te p.2).bind fun q => if noOw q.2 vs = true then some (some q.1, wipeE q.2 vs) else none
      else if noOw p.2 vs = true then some (none, wipeE p.2 vs) else none
theorem lcLoop_cons {tg : Tg} {tt : MT} {te : ME} {vs : List Nat} {f : Bool} {x : D} {xs : List D} {e : EnvD} : lcLoop tg tt te vs f (x :: xs) e = (lcOne tg tt te vs f x e).bind fun p => match p.1 with
    | some y => (lcLoop tg tt te vs f xs p.2).map fun r => (y :: r.1, r.2)
    | none => lcLoop tg tt te vs f xs p.2 := by
  conv => lhs; unfold lcLoop
  unfold lcOne
  cases bindT tg f x e with
  | none => rfl
  | some e1 =>
    simp only [Option.bind_some]
    cases tt e1 with
    | none => rfl
    | some p =>
      simp only [Option.bind_some]
      split
      · cases mEsc te p.2 with
        | none => rfl
        | some q =>
          simp only [Option.bind_some]
          split <;> rfl
      · split <;> rfl
theorem lcLoop_map {α : Type} {tg : Tg} {tt : MT} {te : ME} {vs : List Nat} {f : Bool} {e : EnvD} (dt : α → D) (g : α → Option (Bool × D)) : ∀ (xs : List α),
    (∀ x ∈ xs, lcOne tg tt te vs f (dt x) e = some (g x, e)) → lcLoop tg tt te vs f (xs.map dt) e = some (xs.filterMap g, e)
  | [], _ => rfl
  | x :: xs, h => by
    rw [List.map_cons, lcLoop_cons, h x (List.mem_cons_self ..), Option.bind_some]
    have ih := lcLoop_map dt g xs fun y hy => h y (List.mem_cons_of_mem _ hy)
    simp only []
    cases hg : g x with
    | none => simp only []; rw [ih, List.filterMap_cons, hg]
    | some y => simp only []; rw [ih, List.filterMap_cons, hg]; rfl
/-- without a test -/
theorem lcLoop_map1 {α : Type} {tg : Tg} {tt : MT} {te : ME} {vs : List Nat} {f : Bool} {e : EnvD} (dt : α → D) (b : Bool) (g : α → D) (xs : List α)
    (h : ∀ x ∈ xs, lcOne tg tt te vs f (dt x) e = some (some (b, g x), e)) : lcLoop tg tt te vs f (xs.map dt) e = some (xs.map fun x => (b, g x), e) := by
  rw [lcLoop_map dt (fun x => some (b, g x)) xs h]
  congr 2
  induction xs with
  | nil => rfl
  | cons x xs ih => simp
theorem lcLoop_filter {α : Type} {tg : Tg} {tt : MT} {te : ME} {vs : List Nat} {f : Bool} {e : EnvD} (dt : α → D) (b : Bool) (p : α → Bool) (g : α → D) (xs : List α)
    (h : ∀ x ∈ xs, lcOne tg tt te vs f (dt x) e = some (if p x then some (b, g x) else none, e)) : lcLoop tg tt te vs f (xs.map dt) e = some ((xs.filter p).map fun x => (b, g x), e) := by
  rw [lcLoop_map dt (fun x => if p x then some (b, g x) else none) xs h]
  congr 2
  induction xs with
  | nil => rfl
  | cons x xs ih =>
    rw [List.filterMap_cons, List.filter_cons]
    have ih' := ih fun y hy => h y (List.mem_cons_of_mem _ hy)
    cases p x <;> simp [ih']
theorem flagOf_map {α : Type} (b : Bool) (g : α → D) (xs : List α) (h : ∀ x ∈ xs, (b || sc (g x)) = true) : flagOf (xs.map fun x => (b, g x)) = true := by
  unfold flagOf
  rw [List.all_map, List.all_eq_true]
  intro x hx
  exact h x hx
theorem map_snd {α : Type} (b : Bool) (g : α → D) (xs : List α) : (xs.map fun x => (b, g x)).map (·.2) = xs.map g := by
  rw [List.map_map]; rfl
/-! ### range -/
theorem rangeD_map (n : Nat) : rangeD 0 n = (List.range n).map fun (k : Nat) => PyData.int (k : Int) := by
  unfold rangeD
  congr 1
  funext k
  rw [Int.zero_add]
theorem inRg_nat {n : Nat} (h : n < 2 ^ 62) : inRg (n : Int) = true := by
  rw [inRg_iff]; omega
theorem map_int (ns : List Int) : ns.map PyData.int = ns.map fun i => PyData.int i := rfl
/-! ### places -/
theorem ixN_nat {n i : Nat} (h : i < n) : ixN n (i : Int) = some i := by
  unfold ixN
  simp
  omega
theorem atI_nat {xs : List D} {i : Nat} : atI xs (i : Int) = xs[i]? := by
  by_cases h : i < xs.length
  · unfold atI; rw [ixN_nat h]; rfl
  · rw [List.getElem?_eq_none (by omega)]
    unfold atI ixN
    have : ¬ ((i : Int) < xs.length) := by omega
    simp [this]
/-! ### typed data -/
/-- a type as data: == is equality, at most dep deep, no text that cannot be laid -/
class En (α : Type) where
  en : α → D
  ok : α → Bool
  dep : Nat
  deq : DecidableEq α
  eqv : ∀ x y, PyData.eqv (en x) (en y) = decide (x = y)
  lay : ∀ x, ok x = true → (en x).canLay0 = true
  dp : ∀ x, (en x).depth ≤ dep
instance (priority := low) {α : Type} [En α] : DecidableEq α := En.deq
abbrev en {α : Type} [En α] (x : α) : D := En.en x
instance : En Int where
  en := .int
  ok _ := true
  dep := 0
  deq := inferInstance
  eqv x y := by rw [PyData.eqv]; rfl
  lay _ _ := rfl
  dp _ := Nat.le_refl _
instance : En Nat where
  en n := .int n
  ok _ := true
  dep := 0
  deq := inferInstance
  eqv x y := by
    rw [PyData.eqv]
    by_cases h : x = y
    · subst h; simp
    · have : ((x : Int) == (y : Int)) = false := by simp; omega
      rw [this, decide_eq_false h]
  lay _ _ := rfl
  dp _ := Nat.le_refl _
instance : En Bool where
  en := .bool
  ok _ := true
  dep := 0
  deq := inferInstance
  eqv x y := by rw [PyData.eqv]; cases x <;> cases y <;> rfl
  lay _ _ := rfl
  dp _ := Nat.le_refl _
instance : En Str where
  en := .str
  ok := PySem.PyData.strOk
  dep := 0
  deq := inferInstance
  eqv x y := by
    rw [PyData.eqv]
    by_cases h : x = y
    · subst h; simp
    · rw [decide_eq_false h]; simpa using h
  lay x h := by simpa [PyData.canLay0] using h
  dp _ := by show PyData.depth (.str _) ≤ 0; rw [PyData.depth]; exact Nat.le_refl _
section
variable {α β : Type} [En α] [En β]
theorem eqvAll_en : ∀ xs ys : List α, PyData.eqvAll (xs.map en) (ys.map en) = decide (xs = ys)
  | [], [] => by simp [PyData.eqvAll]
  | x :: xs, y :: ys => by
    rw [List.map_cons, List.map_cons, PyData.eqvAll, eqvAll_en xs ys]
    show (PyData.eqv (En.en x) (En.en y) && _) = _
    rw [En.eqv]
    by_cases h : x = y
    · subst h; simp
    · simp [h]
  | [], _ :: _ => by simp [PyData.eqvAll]
  | _ :: _, [] => by simp [PyData.eqvAll]
theorem layAll_en : ∀ xs : List α, (∀ x ∈ xs, En.ok x = true) → PyData.canLayAll0 (xs.map en) = true
  | [], _ => rfl
  | x :: xs, h => by
    rw [List.map_cons, PyData.canLayAll0, Bool.and_eq_true]
    exact ⟨En.lay x (h x (List.mem_cons_self ..)), layAll_en xs fun y hy => h y (List.mem_cons_of_mem _ hy)⟩
theorem depAll_en : ∀ xs : List α, PyData.depthAll (xs.map en) ≤ En.dep α
  | [] => by rw [List.map_nil, PyData.depthAll]; exact Nat.zero_le _
  | x :: xs => by
    rw [List.map_cons, PyData.depthAll]
    have h1 : PyData.depth (en x) ≤ En.dep α := En.dp x
    have := depAll_en xs
    omega
instance : En (List α) where
  en xs := .list (xs.map en)
  ok xs := xs.all En.ok
  dep := En.dep α + 1
  deq := inferInstance
  eqv x y := by rw [PyData.eqv, eqvAll_en]
  lay x h := by
    rw [PyData.canLay0]
    exact layAll_en x fun y hy => List.all_eq_true.mp h y hy
  dp x := by
    rw [PyData.depth]
    have := depAll_en x
    omega
instance : En (α × β) where
  en p := .tuple [en p.1, en p.2]
  ok p := En.ok p.1 && En.ok p.2
  dep := max (En.dep α) (En.dep β) + 1
  deq := inferInstance
  eqv x y := by
    obtain ⟨a, b⟩ := x
    obtain ⟨c, d⟩ := y
    rw [PyData.eqv, PyData.eqvAll, PyData.eqvAll, PyData.eqvAll]
    show (PyData.eqv (En.en a) (En.en c) && (PyData.eqv (En.en b) (En.en d) && true)) = _
    rw [En.eqv, En.eqv]
    by_cases h : a = c
    · subst h
      by_cases h2 : b = d
      · subst h2; simp
      · simp [h2]
    · simp [h]
  lay x h := by
    rw [Bool.and_eq_true] at h
    rw [PyData.canLay0, PyData.canLayAll0, PyData.canLayAll0, PyData.canLayAll0]
    have h1 : (en x.1 : D).canLay0 = true := En.lay _ h.1
    have h2 : (en x.2 : D).canLay0 = true := En.lay _ h.2
    rw [h1, h2]; rfl
  dp x := by
    rw [PyData.depth, PyData.depthAll, PyData.depthAll, PyData.depthAll]
    have h1 : PyData.depth (en x.1) ≤ En.dep α := En.dp x.1
    have h2 : PyData.depth (en x.2) ≤ En.dep β := En.dp x.2
    omega
theorem shp_en (x : α) (h : En.ok x = true) (hd : En.dep α ≤ 64) : SeqAt.shaped (en x) = true := by
  unfold SeqAt.shaped
  rw [Bool.and_eq_true, decide_eq_true_iff]
  exact ⟨En.lay x h, Nat.le_trans (En.dp x) hd⟩
theorem dEq_en (x y : α) (hx : En.ok x = true) (hy : En.ok y = true) (hd : En.dep α ≤ 64) : dEq (en x) (en y) = some (.bool (decide (x = y))) := by
  unfold dEq
  rw [if_pos ⟨shp_en x hx hd, shp_en y hy hd⟩]
  show some (PyData.bool (PyData.eqv (En.en x) (En.en y))) = _
  rw [En.eqv]
theorem dNe_en (x y : α) (hx : En.ok x = true) (hy : En.ok y = true) (hd : En.dep α ≤ 64) : dNe (en x) (en y) = some (.bool (!decide (x = y))) := by
  unfold dNe
  rw [if_pos ⟨shp_en x hx hd, shp_en y hy hd⟩]
  show some (PyData.bool (!PyData.eqv (En.en x) (En.en y))) = _
  rw [En.eqv]
theorem dMem_en (x : α) (xs : List α) : dMem (en x) (xs.map en) = decide (x ∈ xs) := by
  unfold dMem
  rw [List.any_map]
  induction xs with
  | nil => simp
  | cons y ys ih =>
    rw [List.any_cons, ih]
    show (PyData.eqv (En.en y) (En.en x) || _) = _
    rw [En.eqv]
    by_cases h : y = x
    · subst h; simp
    · have h' : ¬ x = y := fun z => h z.symm
      simp [h, h']
end
end DL
end
section
set_option maxHeartbeats 4000000
/-! DL17: to compute with the semantics: what is walked, comprehensions, statements, calls. -/
namespace DL
open PySem PySem.Spec PyProof.Rows L2

-- targets
def frS : Option Sl → Bool
  | some (.o true _ _ _) => false
  | some (.o _ true _ _) => false
  | some _ => true
  | none => false
theorem x4v {e : EnvD} {i : Nat} : free e i = frS e[i]? := by unfold free frS; rfl
theorem x4t : frS (some .u) = true := rfl
theorem x4u {f : Bool} {x : D} : frS (some (.v f x)) = true := rfl
theorem x4q {f : Bool} {x : List D} : frS (some (.o false false f x)) = true := rfl
theorem x4r {f : Bool} {cl : Str} {fs : List (Str × D)} : frS (some (.ob f cl fs)) = true := rfl
theorem x4s {ns : List Int} : frS (some (.s ns)) = true := rfl
def ifT {α : Type} : Bool → Option α → Option α
  | true, x => x
  | false, _ => none
theorem x5b {α : Type} {x : Option α} : ifT true x = x := rfl
theorem x1b {i : Nat} {f : Bool} {x : D} {e : EnvD} : bindT (.nm i) f x e = ifT (frS e[i]?) (some (e.set i (.v f x))) := by
  unfold bindT
  rw [x4v]
  cases frS e[i]? <;> rfl
theorem x1i {ts : List Tg} {f : Bool} {xs : List D} {e : EnvD} : bindT (.tup ts) f (.tuple xs) e = bindTs ts f xs e := rfl
theorem x1h {f : Bool} {e : EnvD} : bindTs [] f [] e = some e := rfl
def bsK (ts : List Tg) (f : Bool) (xs : List D) : Option EnvD → Option EnvD
  | some e => bindTs ts f xs e
  | none => none
theorem x1g {t : Tg} {ts : List Tg} {f : Bool} {x : D} {xs : List D} {e : EnvD} : bindTs (t :: ts) f (x :: xs) e = bsK ts f xs (bindT t f x e) := by
  show (bindT t f x e).bind _ = _
  cases bindT t f x e <;> rfl
theorem x1d {ts : List Tg} {f : Bool} {xs : List D} {e : EnvD} : bsK ts f xs (some e) = bindTs ts f xs e := rfl
-- what is walked
def lkS (i : Nat) (e : EnvD) : Option Sl → List (Nat × Bool) × EnvD
  | some (.o io false f xs) => ([(i, true)], e.set i (.o io true f xs))
  | some (.o _ true _ _) => ([(i, false)], e)
  | _ => ([], e)
theorem x74 {i : Nat} {e : EnvD} : lockOf (.own i) e = lkS i e e[i]? := by unfold lockOf lkS; rfl
theorem x75 {f : Bool} {x : D} {e : EnvD} : lockOf (.val f x) e = ([], e) := rfl
theorem x73 {x : D} {e : EnvD} : lockOf (.ext x) e = ([], e) := rfl
theorem x6z {i : Nat} {e : EnvD} {io f : Bool} {xs : List D} : lkS i e (some (.o io false f xs)) = ([(i, true)], e.set i (.o io true f xs)) := rfl
theorem x6y {i : Nat} {e : EnvD} {io f : Bool} {xs : List D} : lkS i e (some (.o io true f xs)) = ([(i, false)], e) := rfl
theorem x72 {i : Nat} {e : EnvD} {f : Bool} {x : D} : lkS i e (some (.v f x)) = ([], e) := rfl
theorem x70 {i : Nat} {e : EnvD} {ns : List Int} : lkS i e (some (.s ns)) = ([], e) := rfl
theorem x71 {i : Nat} {e : EnvD} : lkS i e (some .u) = ([], e) := rfl
def is3 (e : EnvD) : Option D → Option (Src × EnvD)
  | some (.str z) => some (⟨[], true, strD z, false⟩, e)
  | _ => none
def is2 (r : RV) (e : EnvD) : Option (Bool × Bool × List D) → Option (Src × EnvD)
  | some t => some (⟨(lockOf r e).1, t.2.1, t.2.2, true⟩, (lockOf r e).2)
  | none => is3 e (getD r e)
def is1 : Option (RV × EnvD) → Option (Src × EnvD)
  | some p => is2 p.1 p.2 (view p.1 p.2)
  | none => none
theorem x9e {a : ME} {e : EnvD} : iSeq a e = is1 (settle a e) := by
  unfold iSeq
  cases settle a e with
  | none => rfl
  | some p =>
    simp only [Option.bind_some]
    show _ = is2 p.1 p.2 (view p.1 p.2)
    cases view p.1 p.2 <;> rfl
theorem x5k {r : RV} {e : EnvD} : is1 (some (r, e)) = is2 r e (view r e) := rfl
theorem x5l {r : RV} {e : EnvD} {t f : Bool} {xs : List D} : is2 r e (some (t, f, xs)) = some (⟨(lockOf r e).1, f, xs, true⟩, (lockOf r e).2) := rfl
theorem x5m {r : RV} {e : EnvD} : is2 r e none = is3 e (getD r e) := rfl
theorem x5n {z : Str} {e : EnvD} : is3 e (some (.str z)) = some (⟨[], true, strD z, false⟩, e) := rfl
def rg2 (e : EnvD) : Option D → Option (Src × EnvD)
  | some (.int j) => ifT (inRg j) (some (⟨[], true, rangeD 0 j.toNat, false⟩, e))
  | _ => none
def rg1 : Option (RV × EnvD) → Option (Src × EnvD)
  | some p => rg2 p.2 (getD p.1 p.2)
  | none => none
theorem x8x {a : ME} {e : EnvD} : iRg1 a e = rg1 (a e) := by
  unfold iRg1
  cases a e with
  | none => rfl
  | some p =>
    simp only [Option.bind_some]
    show _ = rg2 p.2 (getD p.1 p.2)
    generalize getD p.1 p.2 = w
    cases w with
    | none => rfl
    | some w =>
      cases w with
      | int j =>
        show _ = ifT (inRg j) _
        simp only []
        cases inRg j <;> rfl
      | _ => rfl
theorem x8y {r : RV} {e : EnvD} : rg1 (some (r, e)) = rg2 e (getD r e) := rfl
theorem x8z {n : Int} {e : EnvD} : rg2 e (some (.int n)) = ifT (inRg n) (some (⟨[], true, rangeD 0 n.toNat, false⟩, e)) := rfl
def rh3 (e : EnvD) : Option D → Option D → Option (Src × EnvD)
  | some (.int i), some (.int j) => ifT (inRg i && inRg j) (some (⟨[], true, rangeD i (j - i).toNat, false⟩, e))
  | _, _ => none
def rh2 (r : RV) : Option (RV × EnvD) → Option (Src × EnvD)
  | some q => rh3 q.2 (getD r q.2) (getD q.1 q.2)
  | none => none
def rh1 (b : ME) : Option (RV × EnvD) → Option (Src × EnvD)
  | some p => rh2 p.1 (settle b p.2)
  | none => none
theorem x90 {a b : ME} {e : EnvD} : iRg2 a b e = rh1 b (settle a e) := by
  unfold iRg2
  cases settle a e with
  | none => rfl
  | some p =>
    simp only [Option.bind_some]
    show _ = rh2 p.1 (settle b p.2)
    cases settle b p.2 with
    | none => rfl
    | some q =>
      simp only [Option.bind_some]
      show _ = rh3 q.2 (getD p.1 q.2) (getD q.1 q.2)
      generalize getD p.1 q.2 = w
      generalize getD q.1 q.2 = u
      cases w with
      | none => rfl
      | some w =>
        cases w with
        | int i =>
          cases u with
          | none => rfl
          | some u =>
            cases u with
            | int j =>
              show _ = ifT (inRg i && inRg j) _
              simp only []
              cases inRg i <;> cases inRg j <;> rfl
            | _ => rfl
        | _ => rfl
theorem x91 {b : ME} {r : RV} {e : EnvD} : rh1 b (some (r, e)) = rh2 r (settle b e) := rfl
theorem x92 {r q : RV} {e : EnvD} : rh2 r (some (q, e)) = rh3 e (getD r e) (getD q e) := rfl
theorem x93 {i j : Int} {e : EnvD} : rh3 e (some (.int i)) (some (.int j)) = ifT (inRg i && inRg j) (some (⟨[], true, rangeD i (j - i).toNat, false⟩, e)) := rfl
def en2 (r : RV) (e : EnvD) : Option (Bool × Bool × List D) → Option (Src × EnvD)
  | some (false, f, xs) => some (⟨(lockOf r e).1, f, enumD 0 xs, true⟩, (lockOf r e).2)
  | _ => none
def en1 : Option (RV × EnvD) → Option (Src × EnvD)
  | some p => en2 p.1 p.2 (view p.1 p.2)
  | none => none
theorem x2v {a : ME} {e : EnvD} : iEn a e = en1 (settle a e) := by unfold iEn; cases settle a e <;> rfl
theorem x2t {r : RV} {e : EnvD} : en1 (some (r, e)) = en2 r e (view r e) := rfl
theorem x2u {r : RV} {e : EnvD} {f : Bool} {xs : List D} : en2 r e (some (false, f, xs)) = some (⟨(lockOf r e).1, f, enumD 0 xs, true⟩, (lockOf r e).2) := rfl
def zp4 (r q : RV) (e : EnvD) : Option (Bool × Bool × List D) → Option (Bool × Bool × List D) → Option (Src × EnvD)
  | some (false, f, xs), some (false, f', ys) => some (⟨(lockOf r e).1 ++ (lockOf q (lockOf r e).2).1, (f || xs.all sc) && (f' || ys.all sc), zipD xs ys, true⟩, (lockOf q (lockOf r e).2).2)
  | _, _ => none
def zp2 (r : RV) : Option (RV × EnvD) → Option (Src × EnvD)
  | some q => zp4 r q.1 q.2 (view r q.2) (view q.1 (lockOf r q.2).2)
  | none => none
def zp1 (b : ME) : Option (RV × EnvD) → Option (Src × EnvD)
  | some p => zp2 p.1 (settle b p.2)
  | none => none
theorem xei {a b : ME} {e : EnvD} : iZp a b e = zp1 b (settle a e) := by
  unfold iZp
  cases settle a e with
  | none => rfl
  | some p =>
    simp only [Option.bind_some]
    show _ = zp2 p.1 (settle b p.2)
    cases settle b p.2 <;> rfl
theorem xej {b : ME} {r : RV} {e : EnvD} : zp1 b (some (r, e)) = zp2 r (settle b e) := rfl
theorem xek {r q : RV} {e : EnvD} : zp2 r (some (q, e)) = zp4 r q e (view r e) (view q (lockOf r e).2) := rfl
theorem xel {r q : RV} {e : EnvD} {f f' : Bool} {xs ys : List D} : zp4 r q e (some (false, f, xs)) (some (false, f', ys)) = some (⟨(lockOf r e).1 ++ (lockOf q (lockOf r e).2).1, (f || xs.all sc) && (f' || ys.all sc), zipD xs ys, true⟩, (lockOf q (lockOf r e).2).2) := rfl
def rv2 (r : RV) (e : EnvD) : Option (Bool × Bool × List D) → Option (Src × EnvD)
  | some t => some (⟨(lockOf r e).1, t.2.1, t.2.2.reverse, true⟩, (lockOf r e).2)
  | none => none
def rv1 : Option (RV × EnvD) → Option (Src × EnvD)
  | some p => rv2 p.1 p.2 (view p.1 p.2)
  | none => none
theorem x8w {a : ME} {e : EnvD} : iRv a e = rv1 (settle a e) := by
  unfold iRv
  cases settle a e with
  | none => rfl
  | some p =>
    simp only [Option.bind_some]
    show _ = rv2 p.1 p.2 (view p.1 p.2)
    cases view p.1 p.2 <;> rfl
theorem x98 {r : RV} {e : EnvD} : rv1 (some (r, e)) = rv2 r e (view r e) := rfl
theorem x99 {r : RV} {e : EnvD} {t f : Bool} {xs : List D} : rv2 r e (some (t, f, xs)) = some (⟨(lockOf r e).1, f, xs.reverse, true⟩, (lockOf r e).2) := rfl
-- locks
def ulS (j : Nat) (r : List (Nat × Bool)) (e : EnvD) : Option Sl → EnvD
  | some (.o io true f xs) => unlock r (e.set j (.o io false f xs))
  | _ => unlock r e
theorem xb1 {e : EnvD} : unlock [] e = e := rfl
theorem xb2 {j : Nat} {r : List (Nat × Bool)} {e : EnvD} : unlock ((j, true) :: r) e = ulS j r e e[j]? := by
  conv => lhs; unfold unlock
  unfold ulS
  rfl
theorem xb0 {j : Nat} {r : List (Nat × Bool)} {e : EnvD} : unlock ((j, false) :: r) e = unlock r e := by
  conv => lhs; unfold unlock
theorem xaz {j : Nat} {r : List (Nat × Bool)} {e : EnvD} {io f : Bool} {xs : List D} : ulS j r e (some (.o io true f xs)) = unlock r (e.set j (.o io false f xs)) := rfl
-- comprehensions
def nwS : Option Sl → Bool
  | some (.o _ _ _ _) => false
  | _ => true
theorem x81 {e : EnvD} : noOw e [] = true := rfl
theorem x80 {e : EnvD} {i : Nat} {vs : List Nat} : noOw e (i :: vs) = (nwS e[i]? && noOw e vs) := by
  unfold noOw
  rw [List.all_cons]
  congr 1
theorem x87 : nwS (some .u) = true := rfl
theorem x88 {f : Bool} {x : D} : nwS (some (.v f x)) = true := rfl
theorem x85 {f : Bool} {cl : Str} {fs : List (Str × D)} : nwS (some (.ob f cl fs)) = true := rfl
theorem x86 {ns : List Int} : nwS (some (.s ns)) = true := rfl
theorem xd1 {e : EnvD} : wipeE e [] = e := rfl
theorem xd0 {e : EnvD} {v : Nat} {vs : List Nat} : wipeE e (v :: vs) = (wipeE e vs).set v .u := rfl
theorem x8t {e1 e2 : EnvD} : restE e1 e2 [] = e2 := rfl
theorem x8s {e1 e2 : EnvD} {v : Nat} {vs : List Nat} : restE e1 e2 (v :: vs) = (restE e1 e2 vs).set v (e1.getD v .u) := rfl
def lcR (b : Bool) (n : Nat) (x : Option (RV × EnvD)) : Option (RV × EnvD) := if b = true ∨ n ≤ sizeLine then x else none
theorem x6r {n : Nat} {x : Option (RV × EnvD)} : lcR true n x = x := by unfold lcR; rw [if_pos (.inl rfl)]
theorem x6q {n : Nat} {x : Option (RV × EnvD)} (h : n ≤ sizeLine) : lcR false n x = x := by unfold lcR; rw [if_pos (.inr h)]
def lcE (lk : List (Nat × Bool)) (e : EnvD) (vs : List Nat) : Option (List (Bool × D) × EnvD) → Option (RV × EnvD)
  | some q => some (.new (flagOf q.1) (q.1.map (·.2)), unlock lk (restE e q.2 vs))
  | none => none
def lcK (tg : Tg) (tt : MT) (te : ME) (vs : List Nat) : Option (Src × EnvD) → Option (RV × EnvD)
  | some p => ifT (noOw p.2 vs) (lcR p.1.b p.1.ds.length (lcE p.1.lk p.2 vs (lcLoop tg tt te vs p.1.f p.1.ds (wipeE p.2 vs))))
  | none => none
theorem x6n {src : MI} {tg : Tg} {tt : MT} {te : ME} {vs : List Nat} {e : EnvD} : mLc src tg tt te vs e = lcK tg tt te vs (src e) := by
  unfold mLc
  cases src e with
  | none => rfl
  | some p =>
    simp only [Option.bind_some]
    show _ = ifT (noOw p.2 vs) (lcR p.1.b p.1.ds.length (lcE p.1.lk p.2 vs (lcLoop tg tt te vs p.1.f p.1.ds (wipeE p.2 vs))))
    cases noOw p.2 vs with
    | false => simp [ifT]
    | true =>
      simp only [true_and, ifT]
      unfold lcR
      split
      · cases lcLoop tg tt te vs p.1.f p.1.ds (wipeE p.2 vs) <;> rfl
      · rfl
theorem x6p {tg : Tg} {tt : MT} {te : ME} {vs : List Nat} {lk : List (Nat × Bool)} {f b : Bool} {ds : List D} {e : EnvD} :
    lcK tg tt te vs (some (⟨lk, f, ds, b⟩, e)) = ifT (noOw e vs) (lcR b ds.length (lcE lk e vs (lcLoop tg tt te vs f ds (wipeE e vs)))) := rfl
theorem x6o {lk : List (Nat × Bool)} {e e2 : EnvD} {vs : List Nat} {q : List (Bool × D)} : lcE lk e vs (some (q, e2)) = some (.new (flagOf q) (q.map (·.2)), unlock lk (restE e e2 vs)) := rfl
-- one item
def l3K (vs : List Nat) : Option ((Bool × D) × EnvD) → Option (Option (Bool × D) × EnvD)
  | some q => ifT (noOw q.2 vs) (some (some q.1, wipeE q.2 vs))
  | none => none
def l2K (te : ME) (vs : List Nat) : Option (Bool × EnvD) → Option (Option (Bool × D) × EnvD)
  | some p => if p.1 = true then l3K vs (mEsc te p.2) else ifT (noOw p.2 vs) (some (none, wipeE p.2 vs))
  | none => none
def l1K (tt : MT) (te : ME) (vs : List Nat) : Option EnvD → Option (Option (Bool × D) × EnvD)
  | some e => l2K te vs (tt e)
  | none => none
theorem x8b {tg : Tg} {tt : MT} {te : ME} {vs : List Nat} {f : Bool} {x : D} {e : EnvD} : lcOne tg tt te vs f x e = l1K tt te vs (bindT tg f x e) := by
  unfold lcOne
  cases bindT tg f x e with
  | none => rfl
  | some e1 =>
    simp only [Option.bind_some]
    show _ = l2K te vs (tt e1)
    cases tt e1 with
    | none => rfl
    | some p =>
      simp only [Option.bind_some]
      show _ = if p.1 = true then l3K vs (mEsc te p.2) else ifT (noOw p.2 vs) (some (none, wipeE p.2 vs))
      split
      · cases mEsc te p.2 with
        | none => rfl
        | some q =>
          simp only [Option.bind_some]
          show _ = ifT (noOw q.2 vs) (some (some q.1, wipeE q.2 vs))
          cases noOw q.2 vs <;> simp [ifT]
      · cases noOw p.2 vs <;> simp [ifT]
theorem x6k {tt : MT} {te : ME} {vs : List Nat} {e : EnvD} : l1K tt te vs (some e) = l2K te vs (tt e) := rfl
theorem x6l {te : ME} {vs : List Nat} {b : Bool} {e : EnvD} : l2K te vs (some (b, e)) = if b = true then l3K vs (mEsc te e) else ifT (noOw e vs) (some (none, wipeE e vs)) := rfl
theorem x6m {vs : List Nat} {q : Bool × D} {e : EnvD} : l3K vs (some (q, e)) = ifT (noOw e vs) (some (some q, wipeE e vs)) := rfl
-- statements
theorem x7z {e : EnvD} : sNil e = some (.nx e) := rfl
theorem x1c {e : EnvD} : sBreak e = some (.bk e) := rfl
theorem x2b {e : EnvD} : sCont e = some (.ct e) := rfl
theorem x8v {e : EnvD} : sRetN e = some (.rt (.val true .none) e) := rfl
def sqK (b : MS) : Option Out → Option Out
  | some (.nx e) => b e
  | o => o
theorem x9f {a b : MS} {e : EnvD} : sSeq a b e = sqK b (a e) := by
  unfold sSeq
  cases a e with
  | none => rfl
  | some o => cases o <;> rfl
theorem x9v {b : MS} {e : EnvD} : sqK b (some (.nx e)) = b e := rfl
theorem x9w {b : MS} {r : RV} {e : EnvD} : sqK b (some (.rt r e)) = some (.rt r e) := rfl
theorem x9u {b : MS} {e : EnvD} : sqK b (some (.ct e)) = some (.ct e) := rfl
theorem x9t {b : MS} {e : EnvD} : sqK b (some (.bk e)) = some (.bk e) := rfl
def ifK (a b : MS) : Option (Bool × EnvD) → Option Out
  | some p => if p.1 = true then a p.2 else b p.2
  | none => none
theorem x59 {c : MT} {a b : MS} {e : EnvD} : sIf c a b e = ifK a b (c e) := by unfold sIf; cases c e <;> rfl
theorem x5a {a b : MS} {t : Bool} {e : EnvD} : ifK a b (some (t, e)) = if t = true then a e else b e := rfl
def rtK : Option (RV × EnvD) → Option Out
  | some p => some (.rt p.1 p.2)
  | none => none
theorem x8u {m : ME} {e : EnvD} : sRet m e = rtK (m e) := by unfold sRet; cases m e <;> rfl
theorem x97 {r : RV} {e : EnvD} : rtK (some (r, e)) = some (.rt r e) := rfl
def exK : Option (RV × EnvD) → Option Out
  | some p => some (.nx p.2)
  | none => none
theorem x35 {m : ME} {e : EnvD} : sExpr m e = exK (m e) := by unfold sExpr; cases m e <;> rfl
theorem x34 {r : RV} {e : EnvD} : exK (some (r, e)) = some (.nx e) := rfl
def ag2 (i : Nat) : Option ((Bool × D) × EnvD) → Option Out
  | some q => ifT (frS q.2[i]?) (some (.nx (q.2.set i (.v q.1.1 q.1.2))))
  | none => none
def ag1 (i : Nat) : Option (RV × EnvD) → Option Out
  | some (.new f xs, e) => ifT (frS e[i]?) (some (.nx (e.set i (.o false false f xs))))
  | some (.ob f cl fs, e) => ifT (frS e[i]?) (some (.nx (e.set i (.ob f cl fs))))
  | some p => ag2 i (esc p)
  | none => none
theorem x0o {i : Nat} {m : ME} {e : EnvD} : sAsg i m e = ag1 i (m e) := by
  unfold sAsg
  have oth : ∀ p : RV × EnvD, ((esc p).bind fun q => if free q.2 i = true then some (Out.nx (q.2.set i (.v q.1.1 q.1.2))) else none) = ag2 i (esc p) := fun p => by
    cases esc p with
    | none => rfl
    | some q =>
      show (if free q.2 i = true then _ else _) = ifT (frS q.2[i]?) _
      rw [x4v]
      cases frS q.2[i]? <;> rfl
  cases m e with
  | none => rfl
  | some p =>
    obtain ⟨r, e1⟩ := p
    cases r with
    | new f xs =>
      show (if free e1 i = true then _ else _) = ifT (frS e1[i]?) _
      rw [x4v]
      cases frS e1[i]? <;> rfl
    | val f x => exact oth (.val f x, e1)
    | own j => exact oth (.own j, e1)
    | ext x => exact oth (.ext x, e1)
    | ob f cl fs =>
      show (if free e1 i = true then _ else _) = ifT (frS e1[i]?) _
      rw [x4v]
      cases frS e1[i]? <;> rfl
theorem x0a {i : Nat} {f : Bool} {xs : List D} {e : EnvD} : ag1 i (some (.new f xs, e)) = ifT (frS e[i]?) (some (.nx (e.set i (.o false false f xs)))) := rfl
theorem x0b {i : Nat} {f : Bool} {cl : Str} {fs : List (Str × D)} {e : EnvD} : ag1 i (some (.ob f cl fs, e)) = ifT (frS e[i]?) (some (.nx (e.set i (.ob f cl fs)))) := rfl
theorem x0d {i : Nat} {f : Bool} {x : D} {e : EnvD} : ag1 i (some (.val f x, e)) = ifT (frS e[i]?) (some (.nx (e.set i (.v f x)))) := rfl
theorem x0c {i j : Nat} {e : EnvD} : ag1 i (some (.own j, e)) = ag2 i (esO j e e[j]?) := by
  rw [← x2z]; rfl
theorem x0e {i : Nat} {f : Bool} {x : D} {e : EnvD} : ag2 i (some ((f, x), e)) = ifT (frS e[i]?) (some (.nx (e.set i (.v f x)))) := rfl
def at2 : Option EnvD → Option Out
  | some e => some (.nx e)
  | none => none
def at1 (tg : Tg) : Option ((Bool × D) × EnvD) → Option Out
  | some p => at2 (bindT tg p.1.1 p.1.2 p.2)
  | none => none
theorem x0p {tg : Tg} {m : ME} {e : EnvD} : sAsgT tg m e = at1 tg (mEsc m e) := by
  unfold sAsgT
  cases mEsc m e with
  | none => rfl
  | some p =>
    simp only [Option.bind_some]
    show _ = at2 (bindT tg p.1.1 p.1.2 p.2)
    cases bindT tg p.1.1 p.1.2 p.2 <;> rfl
theorem x0q {tg : Tg} {f : Bool} {x : D} {e : EnvD} : at1 tg (some ((f, x), e)) = at2 (bindT tg f x e) := rfl
theorem x0r {e : EnvD} : at2 (some e) = some (.nx e) := rfl
def au3 (i : Nat) (e : EnvD) : Option D → Option Out
  | some z => ifT (frS e[i]?) (some (.nx (e.set i (.v true z))))
  | none => none
def au2 (i : Nat) (x : D) : Option (RV × EnvD) → Option Out
  | some p => au3 i p.2 (op2 dAddS (some x) (getD p.1 p.2))
  | none => none
def au1 (i : Nat) (m : ME) (e : EnvD) : Option Sl → Option Out
  | some (.v _ x) => au2 i x (m e)
  | _ => none
theorem x12 {i : Nat} {m : ME} {e : EnvD} : sAug i m e = au1 i m e e[i]? := by
  unfold sAug
  generalize e[i]? = w
  cases w with
  | none => rfl
  | some t =>
    cases t with
    | v f x =>
      show _ = au2 i x (m e)
      simp only []
      cases m e with
      | none => rfl
      | some p =>
        simp only [Option.bind_some]
        show _ = au3 i p.2 (op2 dAddS (some x) (getD p.1 p.2))
        cases getD p.1 p.2 with
        | none => rfl
        | some y =>
          simp only [Option.bind_some, x8c]
          cases dAddS x y with
          | none => rfl
          | some z =>
            simp only [Option.bind_some]
            show _ = ifT (frS p.2[i]?) _
            rw [x4v]
            cases frS p.2[i]? <;> rfl
    | _ => rfl
theorem x0z {i : Nat} {m : ME} {e : EnvD} {f : Bool} {x : D} : au1 i m e (some (.v f x)) = au2 i x (m e) := rfl
theorem x10 {i : Nat} {x : D} {r : RV} {e : EnvD} : au2 i x (some (r, e)) = au3 i e (op2 dAddS (some x) (getD r e)) := rfl
theorem x11 {i : Nat} {e : EnvD} {z : D} : au3 i e (some z) = ifT (frS e[i]?) (some (.nx (e.set i (.v true z)))) := rfl
def ioS : Option Sl → Bool
  | some (.o _ _ _ _) => true
  | _ => false
theorem x5o {e : EnvD} {i : Nat} : isO e i = ioS e[i]? := by unfold isO ioS; rfl
theorem x5g {a b f : Bool} {xs : List D} : ioS (some (.o a b f xs)) = true := rfl
def se5 (i : Nat) (e : EnvD) (io f : Bool) (xs : List D) (p : Bool × D) : Option Nat → Option Out
  | some j => some (.nx (e.set i (.o io false (f && (p.1 || sc p.2)) (xs.set j p.2))))
  | none => none
def se4 (i : Nat) (e : EnvD) (p : Bool × D) : Option D → Option Sl → Option Out
  | some (.int k), some (.o io false f xs) => se5 i e io f xs p (ixN xs.length k)
  | _, _ => none
def se3 (i : Nat) (p : Bool × D) : Option (RV × EnvD) → Option Out
  | some q => se4 i q.2 p (getD q.1 q.2) q.2[i]?
  | none => none
def se1 (i : Nat) (ix : ME) : Option ((Bool × D) × EnvD) → Option Out
  | some p => ifT (ioS p.2[i]?) (se3 i p.1 (ix p.2))
  | none => none
theorem x9g {i : Nat} {ix m : ME} {e : EnvD} : sSet i ix m e = se1 i ix (mEsc m e) := by
  unfold sSet
  cases mEsc m e with
  | none => rfl
  | some p =>
    simp only [Option.bind_some]
    show _ = ifT (ioS p.2[i]?) (se3 i p.1 (ix p.2))
    rw [x5o]
    cases ioS p.2[i]? with
    | false => rfl
    | true =>
      simp only [if_true]
      show _ = se3 i p.1 (ix p.2)
      cases ix p.2 with
      | none => rfl
      | some q =>
        simp only [Option.bind_some]
        show _ = se4 i q.2 p.1 (getD q.1 q.2) q.2[i]?
        generalize getD q.1 q.2 = w
        generalize q.2[i]? = u
        cases w with
        | none => rfl
        | some w =>
          cases w with
          | int k =>
            cases u with
            | none => rfl
            | some u =>
              cases u with
              | o io lk f xs =>
                cases lk with
                | true => rfl
                | false =>
                  show Option.map _ (ixN xs.length k) = se5 i q.2 io f xs p.1 (ixN xs.length k)
                  cases ixN xs.length k <;> rfl
              | _ => rfl
          | _ => rfl
theorem x9a {i : Nat} {ix : ME} {p : Bool × D} {e : EnvD} : se1 i ix (some (p, e)) = ifT (ioS e[i]?) (se3 i p (ix e)) := rfl
theorem x9b {i : Nat} {p : Bool × D} {r : RV} {e : EnvD} : se3 i p (some (r, e)) = se4 i e p (getD r e) e[i]? := rfl
theorem x9c {i : Nat} {e : EnvD} {p : Bool × D} {k : Int} {io f : Bool} {xs : List D} : se4 i e p (some (.int k)) (some (.o io false f xs)) = se5 i e io f xs p (ixN xs.length k) := rfl
theorem x9d {i j : Nat} {e : EnvD} {a : Bool} {x : D} {io f : Bool} {xs : List D} : se5 i e io f xs (a, x) (some j) = some (.nx (e.set i (.o io false (f && (a || sc x)) (xs.set j x)))) := rfl
def ap2 (i : Nat) (e : EnvD) (p : Bool × D) : Option Sl → Option Out
  | some (.o io false f xs) => if xs.length < sizeLine then some (.nx (e.set i (.o io false (f && (p.1 || sc p.2)) (xs ++ [p.2])))) else none
  | _ => none
def ap1 (i : Nat) : Option ((Bool × D) × EnvD) → Option Out
  | some p => ap2 i p.2 p.1 p.2[i]?
  | none => none
theorem x0n {i : Nat} {m : ME} {e : EnvD} : sApp i m e = ifT (ioS e[i]?) (ap1 i (mEsc m e)) := by
  unfold sApp
  rw [x5o]
  cases ioS e[i]? with
  | false => rfl
  | true =>
    simp only [if_true]
    show _ = ap1 i (mEsc m e)
    cases mEsc m e <;> rfl
theorem x0l {i : Nat} {p : Bool × D} {e : EnvD} : ap1 i (some (p, e)) = ap2 i e p e[i]? := rfl
theorem x0m {i : Nat} {e : EnvD} {a : Bool} {x : D} {io f : Bool} {xs : List D} : ap2 i e (a, x) (some (.o io false f xs)) = if xs.length < sizeLine then some (.nx (e.set i (.o io false (f && (a || sc x)) (xs ++ [x])))) else none := rfl
def xt2 (i : Nat) (e : EnvD) : Option (Bool × List D) → Option Sl → Option Out
  | some (f', zs), some (.o io false f xs) => if xs.length + zs.length ≤ sizeLine then some (.nx (e.set i (.o io false (f && (f' || zs.all sc)) (xs ++ zs)))) else none
  | _, _ => none
def xt1 (i : Nat) : Option (RV × EnvD) → Option Out
  | some p => xt2 i p.2 (lview p.1 p.2) p.2[i]?
  | none => none
theorem x36 {i : Nat} {m : ME} {e : EnvD} : sExt i m e = ifT (ioS e[i]?) (xt1 i (settle m e)) := by
  unfold sExt
  rw [x5o]
  cases ioS e[i]? with
  | false => rfl
  | true =>
    simp only [if_true]
    show _ = xt1 i (settle m e)
    cases settle m e <;> rfl
theorem xef {i : Nat} {r : RV} {e : EnvD} : xt1 i (some (r, e)) = xt2 i e (lview r e) e[i]? := rfl
theorem xeg {i : Nat} {e : EnvD} {f' : Bool} {zs : List D} {io f : Bool} {xs : List D} : xt2 i e (some (f', zs)) (some (.o io false f xs)) = if xs.length + zs.length ≤ sizeLine then some (.nx (e.set i (.o io false (f && (f' || zs.all sc)) (xs ++ zs)))) else none := rfl
-- for
def ulK (lk : List (Nat × Bool)) : Option Out → Option Out
  | some (.nx e) => some (.nx (unlock lk e))
  | some (.bk e) => some (.bk (unlock lk e))
  | some (.ct e) => some (.ct (unlock lk e))
  | some (.rt r e) => some (.rt r (unlock lk e))
  | none => none
def foK (tg : Tg) (body : MS) : Option (Src × EnvD) → Option Out
  | some p => ulK p.1.lk (forLoop tg body p.1.f p.1.ds p.2)
  | none => none
theorem x4p {src : MI} {tg : Tg} {body : MS} {e : EnvD} : sFor src tg body e = foK tg body (src e) := by
  unfold sFor
  cases src e with
  | none => rfl
  | some p =>
    simp only [Option.bind_some]
    show _ = ulK p.1.lk (forLoop tg body p.1.f p.1.ds p.2)
    cases forLoop tg body p.1.f p.1.ds p.2 with
    | none => rfl
    | some o => cases o <;> rfl
theorem x4o {tg : Tg} {body : MS} {lk : List (Nat × Bool)} {f b : Bool} {ds : List D} {e : EnvD} : foK tg body (some (⟨lk, f, ds, b⟩, e)) = ulK lk (forLoop tg body f ds e) := rfl
theorem xax {lk : List (Nat × Bool)} {e : EnvD} : ulK lk (some (.nx e)) = some (.nx (unlock lk e)) := rfl
theorem xay {lk : List (Nat × Bool)} {r : RV} {e : EnvD} : ulK lk (some (.rt r e)) = some (.rt r (unlock lk e)) := rfl
def goK : Option Out → Option EnvD
  | some (.nx e) => some e
  | some (.ct e) => some e
  | _ => none
theorem x53 {o : Option Out} : o.bind goOn = goK o := by
  cases o with
  | none => rfl
  | some o => cases o <;> rfl
theorem x55 {e : EnvD} : goK (some (.nx e)) = some e := rfl
theorem x54 {e : EnvD} : goK (some (.ct e)) = some e := rfl
def tuK (body : MS) : Option EnvD → Option Out
  | some e => body e
  | none => none
theorem xaw {tg : Tg} {body : MS} {f : Bool} {x : D} {e : EnvD} : turn tg body f x e = tuK body (bindT tg f x e) := by unfold turn; cases bindT tg f x e <;> rfl
theorem xau {body : MS} {e : EnvD} : tuK body (some e) = body e := rfl
def fcK (tg : Tg) (body : MS) (f : Bool) (xs : List D) : Option Out → Option Out
  | some (.nx e) => forLoop tg body f xs e
  | some (.ct e) => forLoop tg body f xs e
  | some (.bk e) => some (.nx e)
  | some (.rt r e) => some (.rt r e)
  | none => none
theorem x3k {tg : Tg} {body : MS} {f : Bool} {x : D} {xs : List D} {e : EnvD} : forLoop tg body f (x :: xs) e = fcK tg body f xs (turn tg body f x e) := by
  rw [forLoop_cons]
  cases turn tg body f x e with
  | none => rfl
  | some o => cases o <;> rfl
theorem x3f {tg : Tg} {body : MS} {f : Bool} {xs : List D} {e : EnvD} : fcK tg body f xs (some (.nx e)) = forLoop tg body f xs e := rfl
theorem x3e {tg : Tg} {body : MS} {f : Bool} {xs : List D} {e : EnvD} : fcK tg body f xs (some (.ct e)) = forLoop tg body f xs e := rfl
theorem x3d {tg : Tg} {body : MS} {f : Bool} {xs : List D} {e : EnvD} : fcK tg body f xs (some (.bk e)) = some (.nx e) := rfl
theorem x3g {tg : Tg} {body : MS} {f : Bool} {xs : List D} {r : RV} {e : EnvD} : fcK tg body f xs (some (.rt r e)) = some (.rt r e) := rfl
-- calls
theorem x8p {e : EnvD} : rNil e = some ([], e) := rfl
def rc2 (p : RV) : Option (List RV × EnvD) → Option (List RV × EnvD)
  | some q => some (p :: q.1, q.2)
  | none => none
def rc1 (r : MRs) : Option (RV × EnvD) → Option (List RV × EnvD)
  | some p => rc2 p.1 (r p.2)
  | none => none
theorem x8o {a : ME} {r : MRs} {e : EnvD} : rCons a r e = rc1 r (settle a e) := by
  unfold rCons
  cases settle a e with
  | none => rfl
  | some p =>
    simp only [Option.bind_some]
    show _ = rc2 p.1 (r p.2)
    cases r p.2 <;> rfl
theorem x8q {r : MRs} {p : RV} {e : EnvD} : rc1 r (some (p, e)) = rc2 p (r e) := rfl
theorem x8r {p : RV} {q : List RV} {e : EnvD} : rc2 p (some (q, e)) = some (p :: q, e) := rfl
def mgF : Option Sl → Option Sl
  | some (.v _ x) => some (.v false x)
  | some (.o _ _ _ xs) => some (.v false (.list xs))
  | some (.s ns) => some (.s ns)
  | _ => none
def mgT : Option Sl → Option Sl
  | some (.o _ false _ xs) => some (.o true false false xs)
  | _ => none
theorem x7r {f : Bool} {x : D} {e : EnvD} : mkArg false (.val f x) e = some (.v false x) := rfl
theorem x7p {f : Bool} {cl : Str} {fs : List (Str × D)} {e : EnvD} : mkArg false (.ob f cl fs) e = some (.ob false cl fs) := rfl
theorem x7q {i : Nat} {e : EnvD} : mkArg false (.own i) e = mgF e[i]? := by unfold mkArg mgF; rfl
theorem x7o {i : Nat} {e : EnvD} : mkArg true (.own i) e = mgT e[i]? := by unfold mkArg mgT; rfl
theorem x7m {f : Bool} {x : D} : mgF (some (.v f x)) = some (.v false x) := rfl
theorem x7k {a b f : Bool} {xs : List D} : mgF (some (.o a b f xs)) = some (.v false (.list xs)) := rfl
theorem x7l {ns : List Int} : mgF (some (.s ns)) = some (.s ns) := rfl
theorem x7n {a f : Bool} {xs : List D} : mgT (some (.o a false f xs)) = some (.o true false false xs) := rfl
def ma2 (t : Sl) : Option (List Sl) → Option (List Sl)
  | some r => some (t :: r)
  | none => none
def ma1 (ms : List Bool) (rs : List RV) (e : EnvD) : Option Sl → Option (List Sl)
  | some t => ma2 t (mkArgs ms rs e)
  | none => none
theorem x7i {e : EnvD} : mkArgs [] [] e = some [] := rfl
theorem x7h {m : Bool} {ms : List Bool} {r : RV} {rs : List RV} {e : EnvD} : mkArgs (m :: ms) (r :: rs) e = ma1 ms rs e (mkArg m r e) := by
  conv => lhs; unfold mkArgs
  cases mkArg m r e with
  | none => rfl
  | some t =>
    simp only [Option.bind_some]
    show _ = ma2 t (mkArgs ms rs e)
    cases mkArgs ms rs e <;> rfl
theorem x7f {ms : List Bool} {rs : List RV} {e : EnvD} {t : Sl} : ma1 ms rs e (some t) = ma2 t (mkArgs ms rs e) := rfl
theorem x7g {t : Sl} {r : List Sl} : ma2 t (some r) = some (t :: r) := rfl
def bsS (i : Nat) (r : List Nat) : Bool → List Nat
  | true => i :: r
  | false => r
theorem x14 {e : EnvD} {rs : List RV} : bSl e [] rs = [] := by simp [bSl]
theorem x16 {e : EnvD} {ms : List Bool} {rs : List RV} {i : Nat} : bSl e (false :: ms) (.own i :: rs) = bsS i (bSl e ms rs) (ioS e[i]?) := by
  conv => lhs; unfold bSl
  rw [x5o]
  cases ioS e[i]? <;> rfl
theorem x17 {e : EnvD} {m : Bool} {ms : List Bool} {rs : List RV} {f : Bool} {x : D} : bSl e (m :: ms) (.val f x :: rs) = bSl e ms rs := by
  cases m <;> (conv => lhs; unfold bSl)
theorem x15 {e : EnvD} {m : Bool} {ms : List Bool} {rs : List RV} {f : Bool} {cl : Str} {fs : List (Str × D)} : bSl e (m :: ms) (.ob f cl fs :: rs) = bSl e ms rs := by
  cases m <;> (conv => lhs; unfold bSl)
theorem x13 {e : EnvD} {ms : List Bool} {rs : List RV} {r : RV} : bSl e (true :: ms) (r :: rs) = bSl e ms rs := by
  conv => lhs; unfold bSl
theorem x1f {i : Nat} {r : List Nat} : bsS i r true = i :: r := rfl
theorem x1e {i : Nat} {r : List Nat} : bsS i r false = r := rfl
theorem x5j {f : Bool} {x : D} : ioS (some (.v f x)) = false := rfl
theorem x5h {ns : List Int} : ioS (some (.s ns)) = false := rfl
theorem x5i : ioS (some .u) = false := rfl
theorem x57 {rs : List RV} : iSl [] rs = [] := by simp [iSl]
theorem x58 {ms : List Bool} {rs : List RV} {i : Nat} : iSl (true :: ms) (.own i :: rs) = i :: iSl ms rs := by conv => lhs; unfold iSl
theorem x56 {ms : List Bool} {rs : List RV} {r : RV} : iSl (false :: ms) (r :: rs) = iSl ms rs := by conv => lhs; unfold iSl
theorem x27 {r : Sl} : clean [] r = true := rfl
theorem x2a {i : Nat} {bs : List Nat} {f : Bool} {x : D} : clean (i :: bs) (.v f x) = (f || noL x) := rfl
theorem x29 {i : Nat} {bs : List Nat} {f : Bool} {cl : Str} {fs : List (Str × D)} : clean (i :: bs) (.ob f cl fs) = (f || noLAll (fs.map (·.2))) := rfl
theorem x28 {i : Nat} {bs : List Nat} {a b f : Bool} {x : List D} : clean (i :: bs) (.o a b f x) = (f || noLAll x) := rfl
def si2 (bs : List Nat) (ms : List Bool) (rs : List RV) (as' : List Sl) (i : Nat) (f : Bool) (xs : List D) (e : EnvD) : Option Sl → Option EnvD
  | some (.o io false _ _) => ifT (clean bs (.o false false f xs)) (setIo bs ms rs as' (e.set i (.o io false (f || xs.all sc) xs)))
  | _ => none
theorem x9k {bs : List Nat} {e : EnvD} : setIo bs [] [] [] e = some e := rfl
theorem x9j {bs : List Nat} {ms : List Bool} {r : RV} {rs : List RV} {a : Sl} {as' : List Sl} {e : EnvD} : setIo bs (false :: ms) (r :: rs) (a :: as') e = setIo bs ms rs as' e := by
  conv => lhs; unfold setIo
theorem x9l {bs : List Nat} {ms : List Bool} {i : Nat} {rs : List RV} {lk f : Bool} {xs : List D} {as' : List Sl} {e : EnvD} : setIo bs (true :: ms) (.own i :: rs) (.o true lk f xs :: as') e = si2 bs ms rs as' i f xs e e[i]? := by
  conv => lhs; unfold setIo
  unfold si2
  generalize e[i]? = w
  cases w with
  | none => rfl
  | some t =>
    cases t with
    | o io lk2 f2 xs2 =>
      cases lk2 with
      | true => rfl
      | false =>
        simp only []
        cases clean bs (.o false false f xs) <;> rfl
    | _ => rfl
theorem x9i {bs : List Nat} {ms : List Bool} {rs : List RV} {as' : List Sl} {i : Nat} {f : Bool} {xs : List D} {e : EnvD} {io f0 : Bool} {x0 : List D} :
    si2 bs ms rs as' i f xs e (some (.o io false f0 x0)) = ifT (clean bs (.o false false f xs)) (setIo bs ms rs as' (e.set i (.o io false (f || xs.all sc) xs))) := rfl
def cl5 (r : Sl) : Option EnvD → Option (RV × EnvD)
  | some e2 => (match r with
    | .v f x => some (.val f x, e2)
    | .o _ _ f xs => some (.new f xs, e2)
    | .ob f cl fs => some (.ob f cl fs, e2)
    | _ => none)
  | none => none
def cl4 (bs : List Nat) (ms : List Bool) (rs : List RV) (e : EnvD) : Option (Sl × List Sl) → Option (RV × EnvD)
  | some q => ifT (clean bs q.1) (cl5 q.1 (setIo bs ms rs q.2 e))
  | none => none
def cl3 (F : FD) (ms : List Bool) (rs : List RV) (e : EnvD) : Option (List Sl) → Option (RV × EnvD)
  | some as => ifT (decide ((iSl ms rs).Nodup ∧ ∀ i ∈ iSl ms rs, i ∉ bSl e ms rs)) (cl4 (bSl e ms rs) ms rs e (F as))
  | none => none
def cl1 (F : FD) (ms : List Bool) : Option (List RV × EnvD) → Option (RV × EnvD)
  | some p => cl3 F ms p.1 p.2 (mkArgs ms p.1 p.2)
  | none => none
theorem callK_eq {F : FD} {ms : List Bool} {p : List RV × EnvD} : mCallK F ms p = cl3 F ms p.1 p.2 (mkArgs ms p.1 p.2) := by
    unfold mCallK
    cases mkArgs ms p.1 p.2 with
    | none => rfl
    | some as =>
      simp only [Option.bind_some]
      show _ = ifT (decide ((iSl ms p.1).Nodup ∧ ∀ i ∈ iSl ms p.1, i ∉ bSl p.2 ms p.1)) (cl4 (bSl p.2 ms p.1) ms p.1 p.2 (F as))
      by_cases hc : (iSl ms p.1).Nodup ∧ ∀ i ∈ iSl ms p.1, i ∉ bSl p.2 ms p.1
      · rw [if_pos hc, decide_eq_true hc, x5b]
        cases F as with
        | none => rfl
        | some q =>
          simp only [Option.bind_some]
          show _ = ifT (clean (bSl p.2 ms p.1) q.1) (cl5 q.1 (setIo (bSl p.2 ms p.1) ms p.1 q.2 p.2))
          cases clean (bSl p.2 ms p.1) q.1 with
          | false => rfl
          | true =>
            simp only [if_true, x5b]
            cases setIo (bSl p.2 ms p.1) ms p.1 q.2 p.2 with
            | none => rfl
            | some e2 =>
              obtain ⟨q1, q2⟩ := q
              cases q1 <;> rfl
      · rw [if_neg hc, decide_eq_false hc]
        rfl
theorem x1j {F : FD} {ms : List Bool} {args : MRs} {e : EnvD} : mCall F ms args e = cl1 F ms (args e) := by
  unfold mCall
  cases args e with
  | none => rfl
  | some p =>
    simp only [Option.bind_some]
    exact callK_eq
theorem x21 {F : FD} {ms : List Bool} {rs : List RV} {e : EnvD} : cl1 F ms (some (rs, e)) = cl3 F ms rs e (mkArgs ms rs e) := rfl
theorem x22 {F : FD} {ms : List Bool} {rs : List RV} {e : EnvD} {as : List Sl} : cl3 F ms rs e (some as) = ifT (decide ((iSl ms rs).Nodup ∧ ∀ i ∈ iSl ms rs, i ∉ bSl e ms rs)) (cl4 (bSl e ms rs) ms rs e (F as)) := rfl
theorem x23 {bs : List Nat} {ms : List Bool} {rs : List RV} {e : EnvD} {r : Sl} {as : List Sl} : cl4 bs ms rs e (some (r, as)) = ifT (clean bs r) (cl5 r (setIo bs ms rs as e)) := rfl
theorem x26 {f : Bool} {x : D} {e : EnvD} : cl5 (.v f x) (some e) = some (.val f x, e) := rfl
theorem x25 {f : Bool} {cl : Str} {fs : List (Str × D)} {e : EnvD} : cl5 (.ob f cl fs) (some e) = some (.ob f cl fs, e) := rfl
theorem x24 {a b f : Bool} {x : List D} {e : EnvD} : cl5 (.o a b f x) (some e) = some (.new f x, e) := rfl
theorem x7v {bs : List Nat} : decide (([] : List Nat).Nodup ∧ ∀ i ∈ ([] : List Nat), i ∉ bs) = true := by simp
theorem x7w {i : Nat} {bs : List Nat} : decide (([i] : List Nat).Nodup ∧ ∀ j ∈ ([i] : List Nat), j ∉ bs) = !bs.contains i := by
  by_cases h : i ∈ bs <;> simp [h]
-- attributes, methods, making
def fdO (b : Bool) (e : EnvD) : Option D → Option (RV × EnvD)
  | some x => some (.val b x, e)
  | none => none
def fd1 (fl : List (Str × Str)) (f : Str) : Option (RV × EnvD) → Option (RV × EnvD)
  | some (.ob b cl fs, e) => ifT (fl.contains (cl, f)) (fdO b e (fs.lookup f))
  | _ => none
theorem x3n {fl : List (Str × Str)} {f : Str} {a : ME} {e : EnvD} : mFld fl f a e = fd1 fl f (a e) := by
  unfold mFld
  cases a e with
  | none => rfl
  | some p =>
    obtain ⟨r, e1⟩ := p
    cases r with
    | ob b cl fs =>
      show (if fl.contains (cl, f) = true then Option.map _ (fs.lookup f) else none) = ifT (fl.contains (cl, f)) (fdO b e1 (fs.lookup f))
      cases fl.contains (cl, f) <;> cases fs.lookup f <;> rfl
    | _ => rfl
theorem x3h {fl : List (Str × Str)} {f : Str} {b : Bool} {cl : Str} {fs : List (Str × D)} {e : EnvD} : fd1 fl f (some (.ob b cl fs, e)) = ifT (fl.contains (cl, f)) (fdO b e (fs.lookup f)) := rfl
theorem x3i {b : Bool} {e : EnvD} {x : D} : fdO b e (some x) = some (.val b x, e) := rfl
def mt3 (F : FD) (ms : List Bool) (o : RV) : Option (List RV × EnvD) → Option (RV × EnvD)
  | some q => cl3 F (false :: ms) (o :: q.1) q.2 (mkArgs (false :: ms) (o :: q.1) q.2)
  | none => none
def mt2 (ms : List Bool) (o : RV) (args : MRs) (e : EnvD) : Option FD → Option (RV × EnvD)
  | some F => mt3 F ms o (args e)
  | none => none
def mt1 (tab : List (Str × FD)) (m : Str) (ms : List Bool) (args : MRs) : Option (RV × EnvD) → Option (RV × EnvD)
  | some (.ob b cl fs, e) => ifT (fs.lookup m).isNone (mt2 ms (.ob b cl fs) args e (tab.lookup cl))
  | _ => none
theorem x7j {tab : List (Str × FD)} {m : Str} {ms : List Bool} {o : ME} {args : MRs} {e : EnvD} : mMeth tab m ms o args e = mt1 tab m ms args (o e) := by
  unfold mMeth
  cases o e with
  | none => rfl
  | some p =>
    obtain ⟨r, e1⟩ := p
    cases r with
    | ob b cl fs =>
      show (if (fs.lookup m).isNone = true then _ else none) = ifT (fs.lookup m).isNone (mt2 ms (.ob b cl fs) args e1 (tab.lookup cl))
      cases (fs.lookup m).isNone with
      | false => rfl
      | true =>
        simp only [if_true]
        cases tab.lookup cl with
        | none => rfl
        | some F =>
          show (args e1).bind _ = mt3 F ms (.ob b cl fs) (args e1)
          cases args e1 with
          | none => rfl
          | some q => exact callK_eq
    | _ => rfl
theorem x7s {tab : List (Str × FD)} {m : Str} {ms : List Bool} {args : MRs} {b : Bool} {cl : Str} {fs : List (Str × D)} {e : EnvD} : mt1 tab m ms args (some (.ob b cl fs, e)) = ifT (fs.lookup m).isNone (mt2 ms (.ob b cl fs) args e (tab.lookup cl)) := rfl
theorem x7t {ms : List Bool} {o : RV} {args : MRs} {e : EnvD} {F : FD} : mt2 ms o args e (some F) = mt3 F ms o (args e) := rfl
theorem x7u {F : FD} {ms : List Bool} {o : RV} {rs : List RV} {e : EnvD} : mt3 F ms o (some (rs, e)) = cl3 F (false :: ms) (o :: rs) e (mkArgs (false :: ms) (o :: rs) e) := rfl
def ri1 (r : List (Str × ME)) (f : Str) (acc : List (Str × (Bool × D))) : Option ((Bool × D) × EnvD) → Option (List (Str × (Bool × D)))
  | some p => if (acc.map (·.1)).contains f = true then none else runI r p.2 (acc ++ [(f, p.1)])
  | none => none
theorem x96 {e : EnvD} {acc : List (Str × (Bool × D))} : runI [] e acc = some acc := rfl
theorem x95 {f : Str} {m : ME} {r : List (Str × ME)} {e : EnvD} {acc : List (Str × (Bool × D))} : runI ((f, m) :: r) e acc = ri1 r f acc (mEsc m e) := by
  show (mEsc m e).bind _ = _
  cases mEsc m e <;> rfl
theorem x94 {r : List (Str × ME)} {f : Str} {acc : List (Str × (Bool × D))} {p : Bool × D} {e : EnvD} : ri1 r f acc (some (p, e)) = if (acc.map (·.1)).contains f = true then none else runI r e (acc ++ [(f, p)]) := rfl
def inK (cl : Str) (as : List Sl) : Option (List (Str × (Bool × D))) → Option (Sl × List Sl)
  | some acc => some (.ob (flagOf (acc.map (·.2))) cl (acc.map fun p => (p.1, p.2.2)), as)
  | none => none
theorem init_eq {np N : Nat} {cl : Str} {ins : List (Str × ME)} {as : List Sl} (h : as.length + 1 = np) (h2 : as.all noIo = true) : initSem np N cl ins as = inK cl as (runI ins ((.u :: as) ++ List.replicate (N - np) .u) []) := by
  unfold initSem
  rw [if_pos ⟨h, h2⟩]
  cases runI ins ((.u :: as) ++ List.replicate (N - np) .u) [] <;> rfl
theorem x5e {N : Nat} {cl : Str} {ins : List (Str × ME)} {f : Bool} {x : D} : initSem 2 N cl ins [.v f x] = inK cl [.v f x] (runI ins ([.u, .v f x] ++ List.replicate (N - 2) .u) []) := init_eq rfl rfl
theorem x5f {N : Nat} {cl : Str} {ins : List (Str × ME)} {f g : Bool} {x y : D} : initSem 3 N cl ins [.v f x, .v g y] = inK cl [.v f x, .v g y] (runI ins ([.u, .v f x, .v g y] ++ List.replicate (N - 3) .u) []) := init_eq rfl rfl
theorem x5c {cl : Str} {as : List Sl} {acc : List (Str × (Bool × D))} : inK cl as (some acc) = some (.ob (flagOf (acc.map (·.2))) cl (acc.map fun p => (p.1, p.2.2)), as) := rfl
-- a def
def fnK (n : Nat) : Option Out → Option (Sl × List Sl)
  | some o => fin n o
  | none => none
theorem x3o {np N : Nat} {body : MS} {as : List Sl} (h : as.length = np) : fnSem np N body as = fnK np (body (as ++ List.replicate (N - np) .u)) := by
  unfold fnSem
  rw [if_pos h]
  cases body (as ++ List.replicate (N - np) .u) <;> rfl
theorem x3p {N : Nat} {body : MS} : fnSem 0 N body [] = fnK 0 (body ([] ++ List.replicate (N - 0) .u)) := x3o rfl
theorem x3q {N : Nat} {body : MS} {a0 : Sl} : fnSem 1 N body [a0] = fnK 1 (body ([a0] ++ List.replicate (N - 1) .u)) := x3o rfl
theorem x3r {N : Nat} {body : MS} {a0 a1 : Sl} : fnSem 2 N body [a0, a1] = fnK 2 (body ([a0, a1] ++ List.replicate (N - 2) .u)) := x3o rfl
theorem x3s {N : Nat} {body : MS} {a0 a1 a2 : Sl} : fnSem 3 N body [a0, a1, a2] = fnK 3 (body ([a0, a1, a2] ++ List.replicate (N - 3) .u)) := x3o rfl
theorem x3t {N : Nat} {body : MS} {a0 a1 a2 a3 : Sl} : fnSem 4 N body [a0, a1, a2, a3] = fnK 4 (body ([a0, a1, a2, a3] ++ List.replicate (N - 4) .u)) := x3o rfl
theorem x3u {N : Nat} {body : MS} {a0 a1 a2 a3 a4 : Sl} : fnSem 5 N body [a0, a1, a2, a3, a4] = fnK 5 (body ([a0, a1, a2, a3, a4] ++ List.replicate (N - 5) .u)) := x3o rfl
theorem x3v {N : Nat} {body : MS} {a0 a1 a2 a3 a4 a5 : Sl} : fnSem 6 N body [a0, a1, a2, a3, a4, a5] = fnK 6 (body ([a0, a1, a2, a3, a4, a5] ++ List.replicate (N - 6) .u)) := x3o rfl
theorem x3w {N : Nat} {body : MS} {a0 a1 a2 a3 a4 a5 a6 : Sl} : fnSem 7 N body [a0, a1, a2, a3, a4, a5, a6] = fnK 7 (body ([a0, a1, a2, a3, a4, a5, a6] ++ List.replicate (N - 7) .u)) := x3o rfl
theorem x3x {N : Nat} {body : MS} {a0 a1 a2 a3 a4 a5 a6 a7 : Sl} : fnSem 8 N body [a0, a1, a2, a3, a4, a5, a6, a7] = fnK 8 (body ([a0, a1, a2, a3, a4, a5, a6, a7] ++ List.replicate (N - 8) .u)) := x3o rfl
theorem x4a {n : Nat} {e : EnvD} : fnK n (some (.nx e)) = some (.v true .none, e.take n) := rfl
theorem x4l {n : Nat} {e : EnvD} {f : Bool} {x : D} : fnK n (some (.rt (.val f x) e)) = some (.v f x, e.take n) := rfl
theorem x49 {n : Nat} {e : EnvD} {f : Bool} {x : List D} : fnK n (some (.rt (.new f x) e)) = some (.o false false f x, e.take n) := rfl
theorem x4b {n : Nat} {e : EnvD} {f : Bool} {cl : Str} {fs : List (Str × D)} : fnK n (some (.rt (.ob f cl fs) e)) = some (.ob f cl fs, e.take n) := rfl
def fiS (n i : Nat) (e : EnvD) : Option Sl → Option (Sl × List Sl)
  | some (.o false false f xs) => some (.o false false f xs, (e.set i .u).take n)
  | _ => none
theorem x4c {n i : Nat} {e : EnvD} : fnK n (some (.rt (.own i) e)) = fiS n i e e[i]? := by
  show fin n (.rt (.own i) e) = _
  unfold fin fiS
  rfl
theorem x3j {n i : Nat} {e : EnvD} {f : Bool} {xs : List D} : fiS n i e (some (.o false false f xs)) = some (.o false false f xs, (e.set i .u).take n) := rfl
-- operators
theorem x2o {i j : Int} : dSub (.int i) (.int j) = some (.int (i - j)) := rfl
theorem x2j {i j : Int} : dMul (.int i) (.int j) = if CMul i j then some (.int (i * j)) else none := rfl
theorem x2d {i j : Int} : dFdiv (.int i) (.int j) = if CDiv i j then some (.int (i / j)) else none := rfl
theorem x2i {i j : Int} : dMod (.int i) (.int j) = if 0 < j then some (.int (i % j)) else none := rfl
theorem x2l {i j : Int} : dPow (.int i) (.int j) = if CPow i j then some (.int (i ^ j.toNat)) else none := rfl
theorem x2m {i j : Int} : dShl (.int i) (.int j) = if CPow i j then some (.int (i * 2 ^ j.toNat)) else none := rfl
theorem x2n {i j : Int} : dShr (.int i) (.int j) = if 0 ≤ j then some (.int (i / 2 ^ j.toNat)) else none := rfl
theorem x2c {i j : Int} : dBand (.int i) (.int j) = some (.int (Builtin.bitAnd i j)) := rfl
theorem x2h {i j : Int} : dLt (.int i) (.int j) = some (.bool (decide (i < j))) := rfl
theorem x2g {i j : Int} : dLe (.int i) (.int j) = some (.bool (decide (i ≤ j))) := rfl
theorem x2f {i j : Int} : dGt (.int i) (.int j) = some (.bool (decide (j < i))) := rfl
theorem x2e {i j : Int} : dGe (.int i) (.int j) = some (.bool (decide (j ≤ i))) := rfl
theorem x2k {i : Int} : dNeg (.int i) = some (.int (-i)) := rfl
theorem x6s {xs : List D} : dLen (.list xs) = some (.int xs.length) := rfl
theorem x6u {xs : List D} : dLen (.tuple xs) = some (.int xs.length) := rfl
theorem x6t {z : Str} : dLen (.str z) = if z.length ≤ sizeLine then some (.int z.length) else none := rfl
theorem x2x {i j : Int} : dEq (.int i) (.int j) = some (.bool (decide (i = j))) := dEq_en i j rfl rfl (by decide)
theorem x7y {i j : Int} : dNe (.int i) (.int j) = some (.bool (!decide (i = j))) := dNe_en i j rfl rfl (by decide)
theorem x2w {i j : Bool} : dEq (.bool i) (.bool j) = some (.bool (decide (i = j))) := dEq_en i j rfl rfl (by decide)
theorem x7x {i j : Bool} : dNe (.bool i) (.bool j) = some (.bool (!decide (i = j))) := dNe_en i j rfl rfl (by decide)
theorem x5u : dIs .none .none = some (.bool true) := rfl
theorem x5r {i : Int} : dIs (.int i) .none = some (.bool false) := rfl
theorem x5q {i : Bool} : dIs (.bool i) .none = some (.bool false) := rfl
theorem x5v {i : List D} : dIs (.tuple i) .none = some (.bool false) := rfl
theorem x5s {i : List D} : dIs (.list i) .none = some (.bool false) := rfl
theorem x5p {i j : Bool} : dIs (.bool i) (.bool j) = some (.bool (decide (i = j))) := rfl
theorem x5t {j : Bool} : dIs .none (.bool j) = some (.bool false) := rfl
theorem x6a : dIsNot .none .none = some (.bool false) := rfl
theorem x67 {i : Int} : dIsNot (.int i) .none = some (.bool true) := rfl
theorem x66 {i : Bool} : dIsNot (.bool i) .none = some (.bool true) := rfl
theorem x6b {i : List D} : dIsNot (.tuple i) .none = some (.bool true) := rfl
theorem x68 {i : List D} : dIsNot (.list i) .none = some (.bool true) := rfl
theorem x65 {i j : Bool} : dIsNot (.bool i) (.bool j) = some (.bool (!decide (i = j))) := rfl
theorem x69 {j : Bool} : dIsNot .none (.bool j) = some (.bool true) := rfl
theorem xa2 (ns : List Int) : dSum (.list (ns.map PyData.int)) = some (.int ns.sum) := by show (intsD (ns.map PyData.int)).map _ = _; rw [ints_map]; rfl
theorem x0k (bs : List Bool) : dAny (.list (bs.map PyData.bool)) = some (.bool (bs.any id)) := by show (boolsD (bs.map PyData.bool)).map _ = _; rw [bools_map]; rfl
theorem x0f (bs : List Bool) : dAll (.list (bs.map PyData.bool)) = some (.bool (bs.all id)) := by show (boolsD (bs.map PyData.bool)).map _ = _; rw [bools_map]; rfl
theorem x5z {i : Int} : dIsi "int" (.int i) = some (.bool true) := by kernel_rfl
theorem x5x {i : Int} : dIsi "bool" (.int i) = some (.bool false) := by kernel_rfl
theorem x5y {i : Bool} : dIsi "int" (.bool i) = some (.bool true) := by kernel_rfl
theorem x5w {i : Bool} : dIsi "bool" (.bool i) = some (.bool true) := by kernel_rfl
theorem x60 {i : List D} : dIsi "list" (.list i) = some (.bool true) := by kernel_rfl
theorem x64 {i : List D} : dIsi "tuple" (.tuple i) = some (.bool true) := by kernel_rfl
theorem x63 {i : List D} : dIsi "tuple" (.list i) = some (.bool false) := by kernel_rfl
theorem x61 {i : List D} : dIsi "list" (.tuple i) = some (.bool false) := by kernel_rfl
theorem x62 {i : Str} : dIsi "str" (.str i) = some (.bool true) := by kernel_rfl
theorem x5d {n : Bool} {x : D} {xs : List D} (h : (match x with | .str _ => false | _ => true) = true) : dIn n x (.list xs) = if SeqAt.shaped x = true ∧ SeqAt.shaped (.list xs) = true then some (.bool (if n then !dMem x xs else dMem x xs)) else none := by
  cases x <;> rfl
theorem in_en {α : Type} [En α] (x : α) (xs : List α) (n : Bool) (hx : En.ok x = true) (hs : xs.all En.ok = true) (hd : En.dep α < 64) : dIn n (en x) (.list (xs.map en)) = some (.bool (if n then !decide (x ∈ xs) else decide (x ∈ xs))) := by
  have h1 : SeqAt.shaped (en x) = true := shp_en x hx (by omega)
  have h2 : SeqAt.shaped (.list (xs.map en)) = true := shp_en xs hs (by show En.dep α + 1 ≤ 64; omega)
  have : ∀ d : D, SeqAt.shaped d = true → dIn n d (.list (xs.map en)) = some (.bool (if n then !dMem d (xs.map en) else dMem d (xs.map en))) := fun d hd => by
    cases d <;> first | (show (if _ then _ else _) = _; rw [if_pos ⟨hd, h2⟩]) | (simp [SeqAt.shaped, PyData.canLay0] at hd; done)
  rw [this _ h1, dMem_en]
end DL
end
section
set_option maxHeartbeats 4000000
/-! DL18: typed data, more. -/
namespace DL
open PySem PySem.Spec PyProof.Rows L2

theorem enumD_en (bs : List D) : ∀ i, enumD i bs = (bs.zipIdx i).map fun p => PyData.tuple [.int (p.2 : Nat), p.1] := by
  induction bs with
  | nil => intro i; rfl
  | cons b bs ih => intro i; rw [enumD, List.zipIdx_cons, List.map_cons, ih]
theorem all_sc {α : Type} (g : α → D) (xs : List α) (h : ∀ x, sc (g x) = true) : (xs.map g).all sc = true := by
  rw [List.all_map, List.all_eq_true]; intro x _; exact h x
theorem sc_ints (xs : List Int) : (xs.map PyData.int).all sc = true := all_sc _ _ fun _ => rfl
theorem sc_bools (xs : List Bool) : (xs.map PyData.bool).all sc = true := all_sc _ _ fun _ => rfl
theorem noLAll_of {α : Type} (g : α → D) (xs : List α) (h : ∀ x, noL (g x) = true) : noLAll (xs.map g) = true := by
  induction xs with
  | nil => rfl
  | cons x xs ih => rw [List.map_cons, noLAll, h x, ih]; rfl
theorem flagT {α : Type} (g : α → D) (xs : List α) : flagOf (xs.map fun x => (true, g x)) = true := flagOf_map true g xs fun _ _ => rfl
theorem flagS {α : Type} (b : Bool) (g : α → D) (xs : List α) (h : ∀ x, sc (g x) = true) : flagOf (xs.map fun x => (b, g x)) = true := flagOf_map b g xs fun x _ => by rw [h x, Bool.or_true]
theorem len_map_int {α : Type} (g : α → D) (xs : List α) : ((xs.map g).length : Int) = (xs.length : Int) := by rw [List.length_map]
/-- a[i], a list of typed data -/
theorem atI_map {α : Type} (g : α → D) (xs : List α) (i : Nat) (h : i < xs.length) : atI (xs.map g) (i : Int) = some (g xs[i]) := by
  rw [atI_nat, List.getElem?_map, List.getElem?_eq_getElem h]; rfl
theorem ixN_map {α : Type} (g : α → D) (xs : List α) (i : Nat) (h : i < xs.length) : ixN (xs.map g).length (i : Int) = some i := by
  rw [List.length_map]; exact ixN_nat h
theorem set_map {α : Type} (g : α → D) (xs : List α) (i : Nat) (y : α) : (xs.map g).set i (g y) = (xs.set i y).map g := by
  rw [List.map_set]
/-- marks of a list -/
def marksL (n : Nat) (xs : List Nat) : List Bool := (List.range n).map fun k => decide (k ∈ xs)
theorem marksL_length (n : Nat) (xs : List Nat) : (marksL n xs).length = n := by simp [marksL]
theorem marksL_get (n : Nat) (xs : List Nat) (i : Nat) (h : i < n) : (marksL n xs)[i]? = some (decide (i ∈ xs)) := by
  simp [marksL, h]
theorem marksL_set (n : Nat) (xs : List Nat) (i : Nat) : (marksL n xs).set i true = marksL n (xs ++ [i]) := by
  apply List.ext_getElem?
  intro j
  by_cases hj : j < n
  · rw [marksL_get _ _ _ hj, List.getElem?_set]
    by_cases h : i = j
    · subst h; simp [marksL_length, hj]
    · have h' : ¬ j = i := fun z => h z.symm
      simp [h, h', marksL_get _ _ _ hj]
  · rw [List.getElem?_eq_none (by rw [List.length_set, marksL_length]; omega), List.getElem?_eq_none (by rw [marksL_length]; omega)]
theorem marksL_nil (n : Nat) : marksL n [] = List.replicate n false := by
  apply List.ext_getElem?
  intro j
  by_cases hj : j < n
  · rw [marksL_get _ _ _ hj]; simp [hj]
  · rw [List.getElem?_eq_none (by rw [marksL_length]; omega), List.getElem?_eq_none (by simp; omega)]
/-- the numbers of marks -/
def numsL (bs : List Bool) : List Nat := (List.range bs.length).filter fun k => bs.getD k false
theorem numsL_zip (bs : List Bool) : ∀ i, ((bs.zipIdx i).filter fun p => p.1).map (fun p => p.2) = ((List.range bs.length).filter fun k => bs.getD k false).map (fun k => i + k) := by
  induction bs with
  | nil => intro i; rfl
  | cons b bs ih =>
    intro i
    rw [List.zipIdx_cons, List.length_cons, List.range_succ_eq_map, List.filter_cons, List.filter_cons, List.filter_map]
    have e : (fun k => (b :: bs).getD k false) ∘ Nat.succ = fun k => bs.getD k false := by funext k; simp [List.getD]
    have key : List.map (fun k => i + k) (List.map Nat.succ (List.filter ((fun k => (b :: bs).getD k false) ∘ Nat.succ) (List.range bs.length))) = List.map (fun p => p.2) (List.filter (fun p => p.1) (bs.zipIdx (i + 1))) := by
      rw [ih (i + 1), e, List.map_map]
      apply List.map_congr_left
      intro a _
      simp; omega
    cases b with
    | true => simp only [List.getD_cons_zero, if_true, List.map_cons, Nat.add_zero]; rw [key]
    | false => simp only [List.getD_cons_zero, Bool.false_eq_true, if_false]; rw [key]
theorem numsL_eq (bs : List Bool) : ((bs.zipIdx 0).filter fun p => p.1).map (fun p => p.2) = numsL bs := by
  rw [numsL_zip]
  unfold numsL
  rw [List.map_congr_left (g := id) (fun a _ => by simp)]
  simp
theorem numsL_marks (n : Nat) (xs : List Nat) : numsL (marksL n xs) = (List.range n).filter fun k => decide (k ∈ xs) := by
  unfold numsL
  rw [marksL_length]
  apply List.filter_congr
  intro k hk
  rw [List.mem_range] at hk
  rw [List.getD_eq_getElem?_getD, marksL_get _ _ _ hk]; rfl
/-- slices of typed data -/
def cutL {α : Type} (xs : List α) (lo hi : Option Int) : List α := (xs.drop (HT.sIx xs.length 0 lo)).take (HT.sIx xs.length xs.length hi - HT.sIx xs.length 0 lo)
theorem cutD_map {α : Type} (g : α → D) (xs : List α) (lo hi : Option Int) : cutD (xs.map g) lo hi = (cutL xs lo hi).map g := by
  unfold cutD cutL
  rw [List.length_map, List.map_take, List.map_drop]
theorem cutL_len {α : Type} (xs : List α) (lo hi : Option Int) : (cutL xs lo hi).length ≤ xs.length := by
  unfold cutL
  rw [List.length_take, List.length_drop]
  omega
/-- a number in a range, as a natural one -/
theorem nat_mod (i : Int) (n : Nat) (h : 0 < n) : ∃ m : Nat, i % (n : Int) = (m : Int) ∧ m < n := by
  have h1 : (0 : Int) < n := by omega
  have a := Int.emod_nonneg i (b := (n : Int)) (by omega)
  have b := Int.emod_lt_of_pos i h1
  exact ⟨(i % (n : Int)).toNat, by omega, by omega⟩
theorem nat_in (i lo hi : Int) (h0 : 0 ≤ i) (h : i < hi) : ∃ m : Nat, i = (m : Int) ∧ (m : Int) < hi := ⟨i.toNat, by omega, by omega⟩
/-! ### loops by an invariant over what is done -/
theorem forLoop_inv {α : Type} {tg : Tg} {body : MS} {f : Bool} (dt : α → D) (I : List α → EnvD → Prop) (xs : List α)
    (h : ∀ pre x post e, xs = pre ++ x :: post → I pre e → ∃ e', goK (turn tg body f (dt x) e) = some e' ∧ I (pre ++ [x]) e') (e : EnvD) (h0 : I [] e) :
    ∃ e', forLoop tg body f (xs.map dt) e = some (.nx e') ∧ I xs e' := by
  have key : ∀ (post pre : List α) (e : EnvD), xs = pre ++ post → I pre e → ∃ e', forLoop tg body f (post.map dt) e = some (.nx e') ∧ I xs e' := by
    intro post
    induction post with
    | nil => intro pre e hx hi; rw [List.append_nil] at hx; subst hx; exact ⟨e, rfl, hi⟩
    | cons x post ih =>
      intro pre e hx hi
      obtain ⟨e', h1, h2⟩ := h pre x post e hx hi
      obtain ⟨e2, h3, h4⟩ := ih (pre ++ [x]) e' (by rw [hx, List.append_assoc]; rfl) h2
      refine ⟨e2, ?_, h4⟩
      rw [List.map_cons, x3k]
      cases ht : turn tg body f (dt x) e with
      | none => rw [ht] at h1; cases h1
      | some o =>
        rw [ht] at h1
        cases o <;> first | (cases h1; exact h3) | cases h1
  exact key xs [] e rfl h0
/-- the same where a turn may end the def (or the loop) -/
theorem forLoop_inv2 {α : Type} {tg : Tg} {body : MS} {f : Bool} (dt : α → D) (I : List α → EnvD → Prop) (R : Out → Prop) (xs : List α)
    (h : ∀ pre x post e, xs = pre ++ x :: post → I pre e → (∃ e', goK (turn tg body f (dt x) e) = some e' ∧ I (pre ++ [x]) e') ∨ (∃ e', turn tg body f (dt x) e = some (.bk e') ∧ R (.nx e')) ∨ ∃ r e', turn tg body f (dt x) e = some (.rt r e') ∧ R (.rt r e')) (e : EnvD) (h0 : I [] e)
    (h9 : ∀ e, I xs e → R (.nx e)) : ∃ o, forLoop tg body f (xs.map dt) e = some o ∧ R o := by
  have key : ∀ (post pre : List α) (e : EnvD), xs = pre ++ post → I pre e → ∃ o, forLoop tg body f (post.map dt) e = some o ∧ R o := by
    intro post
    induction post with
    | nil => intro pre e hx hi; rw [List.append_nil] at hx; subst hx; exact ⟨_, rfl, h9 e hi⟩
    | cons x post ih =>
      intro pre e hx hi
      rw [List.map_cons, x3k]
      rcases h pre x post e hx hi with ⟨e', h1, h2⟩ | ⟨e', h1, h2⟩ | ⟨r, e', h1, h2⟩
      · obtain ⟨o, h3, h4⟩ := ih (pre ++ [x]) e' (by rw [hx, List.append_assoc]; rfl) h2
        refine ⟨o, ?_, h4⟩
        cases ht : turn tg body f (dt x) e with
        | none => rw [ht] at h1; cases h1
        | some o =>
          rw [ht] at h1
          cases o <;> first | (cases h1; exact h3) | cases h1
      · rw [h1]; exact ⟨_, rfl, h2⟩
      · rw [h1]; exact ⟨_, rfl, h2⟩
  exact key xs [] e rfl h0
/-- data as typed lists -/
theorem ne_en {α : Type} [En α] (a b : List α) (ha : a.all En.ok = true) (hb : b.all En.ok = true) (hd : En.dep α < 64) : dNe (.list (a.map en)) (.list (b.map en)) = some (.bool (!decide (a = b))) := dNe_en a b ha hb (by show En.dep α + 1 ≤ 64; omega)
theorem eq_en {α : Type} [En α] (a b : List α) (ha : a.all En.ok = true) (hb : b.all En.ok = true) (hd : En.dep α < 64) : dEq (.list (a.map en)) (.list (b.map en)) = some (.bool (decide (a = b))) := dEq_en a b ha hb (by show En.dep α + 1 ≤ 64; omega)
abbrev dNat (k : Nat) : D := .int (k : Int)
theorem ne_bools (a b : List Bool) : dNe (.list (a.map PyData.bool)) (.list (b.map PyData.bool)) = some (.bool (!decide (a = b))) := ne_en a b (by simp [En.ok]) (by simp [En.ok]) (by decide)
theorem eq_bools (a b : List Bool) : dEq (.list (a.map PyData.bool)) (.list (b.map PyData.bool)) = some (.bool (decide (a = b))) := eq_en a b (by simp [En.ok]) (by simp [En.ok]) (by decide)
theorem ne_nats (a b : List Nat) : dNe (.list (a.map dNat)) (.list (b.map dNat)) = some (.bool (!decide (a = b))) := ne_en a b (by simp [En.ok]) (by simp [En.ok]) (by decide)
theorem eq_nats (a b : List Nat) : dEq (.list (a.map dNat)) (.list (b.map dNat)) = some (.bool (decide (a = b))) := eq_en a b (by simp [En.ok]) (by simp [En.ok]) (by decide)
theorem in_nats (n : Bool) (a : Nat) (b : List Nat) : dIn n (.int a) (.list (b.map dNat)) = some (.bool (if n then !decide (a ∈ b) else decide (a ∈ b))) := in_en a b n rfl (by simp [En.ok]) (by decide)
theorem range_nat (n : Nat) : rangeD 0 n = (List.range n).map dNat := rangeD_map n
/-! ### step by step -/
def Ev (m : MS) (e : EnvD) (R : Out → Prop) : Prop := ∃ o, m e = some o ∧ R o
theorem Ev.seq {a b : MS} {e e1 : EnvD} {R : Out → Prop} (h : a e = some (.nx e1)) (k : Ev b e1 R) : Ev (sSeq a b) e R := by
  obtain ⟨o, h1, h2⟩ := k
  exact ⟨o, by rw [x9f, h]; exact h1, h2⟩
/-- a statement that may end the def -/
theorem Ev.seq2 {a b : MS} {e : EnvD} {R : Out → Prop} (h : Ev a e fun o => match o with | .nx e1 => Ev b e1 R | o => R o) : Ev (sSeq a b) e R := by
  obtain ⟨o, h1, h2⟩ := h
  cases o with
  | nx e1 =>
    obtain ⟨o2, h3, h4⟩ := h2
    exact ⟨o2, by rw [x9f, h1]; exact h3, h4⟩
  | bk e1 => exact ⟨_, by rw [x9f, h1]; rfl, h2⟩
  | ct e1 => exact ⟨_, by rw [x9f, h1]; rfl, h2⟩
  | rt r e1 => exact ⟨_, by rw [x9f, h1]; rfl, h2⟩
theorem Ev.of {m : MS} {e : EnvD} {R : Out → Prop} {o : Out} (h : m e = some o) (r : R o) : Ev m e R := ⟨o, h, r⟩
theorem Ev.ret {m : ME} {e e1 : EnvD} {v : RV} {R : Out → Prop} (h : m e = some (v, e1)) (r : R (.rt v e1)) : Ev (sRet m) e R := ⟨_, by rw [x8u, h]; rfl, r⟩
theorem Ev.if_ {c : MT} {a b : MS} {e e1 : EnvD} {t : Bool} {R : Out → Prop} (h : c e = some (t, e1)) (k1 : t = true → Ev a e1 R) (k2 : t = false → Ev b e1 R) : Ev (sIf c a b) e R := by
  cases t with
  | true => obtain ⟨o, h1, h2⟩ := k1 rfl; exact ⟨o, by rw [x59, h]; exact h1, h2⟩
  | false => obtain ⟨o, h1, h2⟩ := k2 rfl; exact ⟨o, by rw [x59, h]; exact h1, h2⟩
theorem Ev.two {a b r : MS} {e e1 : EnvD} {R : Out → Prop} (h : Ev (sSeq a b) e fun o => o = .nx e1) (k : Ev r e1 R) : Ev (sSeq a (sSeq b r)) e R := by
  obtain ⟨o, h1, rfl⟩ := h
  obtain ⟨o2, h3, h4⟩ := k
  refine ⟨o2, ?_, h4⟩
  rw [x9f] at h1 ⊢
  cases ha : a e with
  | none => rw [ha] at h1; cases h1
  | some oa =>
    rw [ha] at h1
    cases oa with
    | nx e2 =>
      have h1' : b e2 = some (.nx e1) := h1
      show sSeq b r e2 = _
      rw [x9f, h1']; exact h3
    | bk e2 => cases h1
    | ct e2 => cases h1
    | rt r e2 => cases h1
theorem Ev.eq {m : MS} {e : EnvD} {o : Out} (h : Ev m e fun x => x = o) : m e = some o := by
  obtain ⟨x, h1, rfl⟩ := h; exact h1
theorem fn_ev {np N : Nat} {body : MS} {as : List Sl} {r : Sl × List Sl} (hl : as.length = np) (h : Ev body (as ++ List.replicate (N - np) .u) fun o => fin np o = some r) : fnSem np N body as = some r := by
  obtain ⟨o, h1, h2⟩ := h
  rw [x3o hl, h1]
  exact h2
theorem law_ev {N : Nat} {body : MS} {a : Sl} (h : Ev body (a :: List.replicate (N - 1) .u) fun o => ∃ f e, o = .rt (.val f (.bool true)) e) : ∃ f as', fnSem 1 N body [a] = some (.v f (.bool true), as') := by
  obtain ⟨o, h1, f, e, rfl⟩ := h
  refine ⟨f, e.take 1, ?_⟩
  rw [x3q]
  show fnK 1 (body (a :: List.replicate (N - 1) .u)) = _
  rw [h1]; rfl
end DL
end
section
set_option maxHeartbeats 4000000
/-! DL19: literals; parts of bodies. -/
namespace DL
open PySem PySem.Spec PyProof.Rows L2
theorem xbn : dEq (.str "in") (.str "in") = some (.bool true) := by kernel_rfl
theorem xd2 : dNe (.str "in") (.str "in") = some (.bool false) := by kernel_rfl
theorem xbt : dEq (.str "in") (.str "out") = some (.bool false) := by kernel_rfl
theorem xd8 : dNe (.str "in") (.str "out") = some (.bool true) := by kernel_rfl
theorem xbo : dEq (.str "in") (.str "least") = some (.bool false) := by kernel_rfl
theorem xd3 : dNe (.str "in") (.str "least") = some (.bool true) := by kernel_rfl
theorem xbr : dEq (.str "in") (.str "most") = some (.bool false) := by kernel_rfl
theorem xd6 : dNe (.str "in") (.str "most") = some (.bool true) := by kernel_rfl
theorem xbp : dEq (.str "in") (.str "make") = some (.bool false) := by kernel_rfl
theorem xd4 : dNe (.str "in") (.str "make") = some (.bool true) := by kernel_rfl
theorem xbq : dEq (.str "in") (.str "may") = some (.bool false) := by kernel_rfl
theorem xd5 : dNe (.str "in") (.str "may") = some (.bool true) := by kernel_rfl
theorem xbs : dEq (.str "in") (.str "never") = some (.bool false) := by kernel_rfl
theorem xd7 : dNe (.str "in") (.str "never") = some (.bool true) := by kernel_rfl
theorem xct : dEq (.str "out") (.str "in") = some (.bool false) := by kernel_rfl
theorem xe8 : dNe (.str "out") (.str "in") = some (.bool true) := by kernel_rfl
theorem xcz : dEq (.str "out") (.str "out") = some (.bool true) := by kernel_rfl
theorem xee : dNe (.str "out") (.str "out") = some (.bool false) := by kernel_rfl
theorem xcu : dEq (.str "out") (.str "least") = some (.bool false) := by kernel_rfl
theorem xe9 : dNe (.str "out") (.str "least") = some (.bool true) := by kernel_rfl
theorem xcx : dEq (.str "out") (.str "most") = some (.bool false) := by kernel_rfl
theorem xec : dNe (.str "out") (.str "most") = some (.bool true) := by kernel_rfl
theorem xcv : dEq (.str "out") (.str "make") = some (.bool false) := by kernel_rfl
theorem xea : dNe (.str "out") (.str "make") = some (.bool true) := by kernel_rfl
theorem xcw : dEq (.str "out") (.str "may") = some (.bool false) := by kernel_rfl
theorem xeb : dNe (.str "out") (.str "may") = some (.bool true) := by kernel_rfl
theorem xcy : dEq (.str "out") (.str "never") = some (.bool false) := by kernel_rfl
theorem xed : dNe (.str "out") (.str "never") = some (.bool true) := by kernel_rfl
theorem xbu : dEq (.str "least") (.str "in") = some (.bool false) := by kernel_rfl
theorem xd9 : dNe (.str "least") (.str "in") = some (.bool true) := by kernel_rfl
theorem xc0 : dEq (.str "least") (.str "out") = some (.bool false) := by kernel_rfl
theorem xdf : dNe (.str "least") (.str "out") = some (.bool true) := by kernel_rfl
theorem xbv : dEq (.str "least") (.str "least") = some (.bool true) := by kernel_rfl
theorem xda : dNe (.str "least") (.str "least") = some (.bool false) := by kernel_rfl
theorem xby : dEq (.str "least") (.str "most") = some (.bool false) := by kernel_rfl
theorem xdd : dNe (.str "least") (.str "most") = some (.bool true) := by kernel_rfl
theorem xbw : dEq (.str "least") (.str "make") = some (.bool false) := by kernel_rfl
theorem xdb : dNe (.str "least") (.str "make") = some (.bool true) := by kernel_rfl
theorem xbx : dEq (.str "least") (.str "may") = some (.bool false) := by kernel_rfl
theorem xdc : dNe (.str "least") (.str "may") = some (.bool true) := by kernel_rfl
theorem xbz : dEq (.str "least") (.str "never") = some (.bool false) := by kernel_rfl
theorem xde : dNe (.str "least") (.str "never") = some (.bool true) := by kernel_rfl
theorem xcf : dEq (.str "most") (.str "in") = some (.bool false) := by kernel_rfl
theorem xdu : dNe (.str "most") (.str "in") = some (.bool true) := by kernel_rfl
theorem xcl : dEq (.str "most") (.str "out") = some (.bool false) := by kernel_rfl
theorem xe0 : dNe (.str "most") (.str "out") = some (.bool true) := by kernel_rfl
theorem xcg : dEq (.str "most") (.str "least") = some (.bool false) := by kernel_rfl
theorem xdv : dNe (.str "most") (.str "least") = some (.bool true) := by kernel_rfl
theorem xcj : dEq (.str "most") (.str "most") = some (.bool true) := by kernel_rfl
theorem xdy : dNe (.str "most") (.str "most") = some (.bool false) := by kernel_rfl
theorem xch : dEq (.str "most") (.str "make") = some (.bool false) := by kernel_rfl
theorem xdw : dNe (.str "most") (.str "make") = some (.bool true) := by kernel_rfl
theorem xci : dEq (.str "most") (.str "may") = some (.bool false) := by kernel_rfl
theorem xdx : dNe (.str "most") (.str "may") = some (.bool true) := by kernel_rfl
theorem xck : dEq (.str "most") (.str "never") = some (.bool false) := by kernel_rfl
theorem xdz : dNe (.str "most") (.str "never") = some (.bool true) := by kernel_rfl
theorem xc1 : dEq (.str "make") (.str "in") = some (.bool false) := by kernel_rfl
theorem xdg : dNe (.str "make") (.str "in") = some (.bool true) := by kernel_rfl
theorem xc7 : dEq (.str "make") (.str "out") = some (.bool false) := by kernel_rfl
theorem xdm : dNe (.str "make") (.str "out") = some (.bool true) := by kernel_rfl
theorem xc2 : dEq (.str "make") (.str "least") = some (.bool false) := by kernel_rfl
theorem xdh : dNe (.str "make") (.str "least") = some (.bool true) := by kernel_rfl
theorem xc5 : dEq (.str "make") (.str "most") = some (.bool false) := by kernel_rfl
theorem xdk : dNe (.str "make") (.str "most") = some (.bool true) := by kernel_rfl
theorem xc3 : dEq (.str "make") (.str "make") = some (.bool true) := by kernel_rfl
theorem xdi : dNe (.str "make") (.str "make") = some (.bool false) := by kernel_rfl
theorem xc4 : dEq (.str "make") (.str "may") = some (.bool false) := by kernel_rfl
theorem xdj : dNe (.str "make") (.str "may") = some (.bool true) := by kernel_rfl
theorem xc6 : dEq (.str "make") (.str "never") = some (.bool false) := by kernel_rfl
theorem xdl : dNe (.str "make") (.str "never") = some (.bool true) := by kernel_rfl
theorem xc8 : dEq (.str "may") (.str "in") = some (.bool false) := by kernel_rfl
theorem xdn : dNe (.str "may") (.str "in") = some (.bool true) := by kernel_rfl
theorem xce : dEq (.str "may") (.str "out") = some (.bool false) := by kernel_rfl
theorem xdt : dNe (.str "may") (.str "out") = some (.bool true) := by kernel_rfl
theorem xc9 : dEq (.str "may") (.str "least") = some (.bool false) := by kernel_rfl
theorem xdo : dNe (.str "may") (.str "least") = some (.bool true) := by kernel_rfl
theorem xcc : dEq (.str "may") (.str "most") = some (.bool false) := by kernel_rfl
theorem xdr : dNe (.str "may") (.str "most") = some (.bool true) := by kernel_rfl
theorem xca : dEq (.str "may") (.str "make") = some (.bool false) := by kernel_rfl
theorem xdp : dNe (.str "may") (.str "make") = some (.bool true) := by kernel_rfl
theorem xcb : dEq (.str "may") (.str "may") = some (.bool true) := by kernel_rfl
theorem xdq : dNe (.str "may") (.str "may") = some (.bool false) := by kernel_rfl
theorem xcd : dEq (.str "may") (.str "never") = some (.bool false) := by kernel_rfl
theorem xds : dNe (.str "may") (.str "never") = some (.bool true) := by kernel_rfl
theorem xcm : dEq (.str "never") (.str "in") = some (.bool false) := by kernel_rfl
theorem xe1 : dNe (.str "never") (.str "in") = some (.bool true) := by kernel_rfl
theorem xcs : dEq (.str "never") (.str "out") = some (.bool false) := by kernel_rfl
theorem xe7 : dNe (.str "never") (.str "out") = some (.bool true) := by kernel_rfl
theorem xcn : dEq (.str "never") (.str "least") = some (.bool false) := by kernel_rfl
theorem xe2 : dNe (.str "never") (.str "least") = some (.bool true) := by kernel_rfl
theorem xcq : dEq (.str "never") (.str "most") = some (.bool false) := by kernel_rfl
theorem xe5 : dNe (.str "never") (.str "most") = some (.bool true) := by kernel_rfl
theorem xco : dEq (.str "never") (.str "make") = some (.bool false) := by kernel_rfl
theorem xe3 : dNe (.str "never") (.str "make") = some (.bool true) := by kernel_rfl
theorem xcp : dEq (.str "never") (.str "may") = some (.bool false) := by kernel_rfl
theorem xe4 : dNe (.str "never") (.str "may") = some (.bool true) := by kernel_rfl
theorem xcr : dEq (.str "never") (.str "never") = some (.bool true) := by kernel_rfl
theorem xe6 : dNe (.str "never") (.str "never") = some (.bool false) := by kernel_rfl
theorem x8k : dPow (.int 10) (.int 18) = some (.int 1000000000000000000) := by kernel_rfl
theorem x8l : dPow (.int 10) (.int 20) = some (.int 100000000000000000000) := by kernel_rfl
theorem x8m : dPow (.int 10) (.int 30) = some (.int 1000000000000000000000000000000) := by kernel_rfl
theorem x8n : dPow (.int 10) (.int 60) = some (.int 1000000000000000000000000000000000000000000000000000000000000) := by kernel_rfl
theorem x0s {a0 : D} {xs : List D} : atI (a0 :: xs) 0 = some a0 := (atI_nat (i := 0)).trans rfl
theorem x0t {a0 a1 : D} {xs : List D} : atI (a0 :: a1 :: xs) 1 = some a1 := (atI_nat (i := 1)).trans rfl
theorem x0u {a0 a1 a2 : D} {xs : List D} : atI (a0 :: a1 :: a2 :: xs) 2 = some a2 := (atI_nat (i := 2)).trans rfl
theorem x0v {a0 a1 a2 a3 : D} {xs : List D} : atI (a0 :: a1 :: a2 :: a3 :: xs) 3 = some a3 := (atI_nat (i := 3)).trans rfl
theorem x0w {a0 a1 a2 a3 a4 : D} {xs : List D} : atI (a0 :: a1 :: a2 :: a3 :: a4 :: xs) 4 = some a4 := (atI_nat (i := 4)).trans rfl
theorem x0x {a0 a1 a2 a3 a4 a5 : D} {xs : List D} : atI (a0 :: a1 :: a2 :: a3 :: a4 :: a5 :: xs) 5 = some a5 := (atI_nat (i := 5)).trans rfl
theorem x0y {a0 a1 a2 a3 a4 a5 a6 : D} {xs : List D} : atI (a0 :: a1 :: a2 :: a3 :: a4 :: a5 :: a6 :: xs) 6 = some a6 := (atI_nat (i := 6)).trans rfl
theorem x3y : (("bound" : Str) == "thing") = false := by decide +kernel
theorem x4n : (("weighed" : Str) == "thing") = false := by decide +kernel
theorem x41 : (("holds" : Str) == "thing") = false := by decide +kernel
theorem x4e : (("sure" : Str) == "thing") = false := by decide +kernel
theorem x44 : (("lost" : Str) == "thing") = false := by decide +kernel
theorem x4j : (("told" : Str) == "thing") = false := by decide +kernel
theorem x47 : (("named" : Str) == "thing") = false := by decide +kernel
theorem x4g : (("thing" : Str) == "bound") = false := by decide +kernel
theorem x4m : (("weighed" : Str) == "bound") = false := by decide +kernel
theorem x40 : (("holds" : Str) == "bound") = false := by decide +kernel
theorem x4d : (("sure" : Str) == "bound") = false := by decide +kernel
theorem x43 : (("lost" : Str) == "bound") = false := by decide +kernel
theorem x4i : (("told" : Str) == "bound") = false := by decide +kernel
theorem x46 : (("named" : Str) == "bound") = false := by decide +kernel
theorem x4h : (("thing" : Str) == "weighed") = false := by decide +kernel
theorem x3z : (("bound" : Str) == "weighed") = false := by decide +kernel
theorem x42 : (("holds" : Str) == "weighed") = false := by decide +kernel
theorem x4f : (("sure" : Str) == "weighed") = false := by decide +kernel
theorem x45 : (("lost" : Str) == "weighed") = false := by decide +kernel
theorem x4k : (("told" : Str) == "weighed") = false := by decide +kernel
theorem x48 : (("named" : Str) == "weighed") = false := by decide +kernel
theorem x37 : ([("In", "thing")] : List (Str × Str)).contains ("In", "thing") = true := by decide +kernel
theorem x3c : ([("Out", "thing")] : List (Str × Str)).contains ("Out", "thing") = true := by decide +kernel
theorem x38 : ([("Least", "bound"), ("Least", "weighed")] : List (Str × Str)).contains ("Least", "bound") = true := by decide +kernel
theorem x39 : ([("Least", "bound"), ("Least", "weighed")] : List (Str × Str)).contains ("Least", "weighed") = true := by decide +kernel
theorem x3a : ([("Most", "bound"), ("Most", "weighed")] : List (Str × Str)).contains ("Most", "bound") = true := by decide +kernel
theorem x3b : ([("Most", "bound"), ("Most", "weighed")] : List (Str × Str)).contains ("Most", "weighed") = true := by decide +kernel

theorem x1n : ((2 : Nat) : Int) = 2 := rfl
theorem x1o : ((3 : Nat) : Int) = 3 := rfl
theorem x1p : ((4 : Nat) : Int) = 4 := rfl
theorem x1q : ((5 : Nat) : Int) = 5 := rfl
theorem x1r : ((6 : Nat) : Int) = 6 := rfl
theorem x1s : ((7 : Nat) : Int) = 7 := rfl
theorem x1t : ((8 : Nat) : Int) = 8 := rfl
theorem x1u : ((9 : Nat) : Int) = 9 := rfl
theorem x1k : ((10 : Nat) : Int) = 10 := rfl
theorem x1l : ((11 : Nat) : Int) = 11 := rfl
theorem x1m : ((12 : Nat) : Int) = 12 := rfl
/-! ### parts, their texts, their objects -/
inductive Part where
  | inn (t : Nat)
  | out (t : Nat)
  | least (k : Int) (its : List (Nat × Int))
  | most (k : Int) (its : List (Nat × Int))
  deriving DecidableEq
abbrev dItem (p : Nat × Int) : D := .tuple [.int (p.1 : Nat), .int p.2]
def dPart : Part → D
  | .inn t => .tuple [.str "in", .int (t : Nat)]
  | .out t => .tuple [.str "out", .int (t : Nat)]
  | .least k its => .tuple [.str "least", .int k, .list (its.map dItem)]
  | .most k its => .tuple [.str "most", .int k, .list (its.map dItem)]
def Part.things : Part → List Nat
  | .inn t => [t]
  | .out t => [t]
  | .least _ its => its.map (·.1)
  | .most _ its => its.map (·.1)
/-- all its things are below n; its items are not too many -/
def Part.ok (n : Nat) (p : Part) : Prop := ∀ t ∈ p.things, t < n
def worthOf (its : List (Nat × Int)) (bs : List Bool) : Int := ((its.filter fun p => bs.getD p.1 false).map (·.2)).sum
def Part.holds (p : Part) (rising world : List Bool) : Bool := match p with
  | .inn t => rising.getD t false
  | .out t => !world.getD t false
  | .least k its => decide (k ≤ worthOf its rising)
  | .most k its => decide (worthOf its world ≤ k)
abbrev Sheet := List (Option Bool)
def insOf (s : Sheet) : List Bool := s.map fun x => decide (x = some true)
def maybe (s : Sheet) : List Bool := s.map fun x => decide (x ≠ some false)
def Part.sure (p : Part) (s : Sheet) : Bool := match p with
  | .inn t => decide (s.getD t none = some true)
  | .out t => decide (s.getD t none = some false)
  | .least k its => decide (k ≤ worthOf its (insOf s))
  | .most k its => decide (worthOf its (maybe s) ≤ k)
def leftOf (s : Sheet) (w : List Bool) : List Bool := List.zipWith (fun x g => decide (x ≠ some false) && !g) s w
def Part.lost (p : Part) (s : Sheet) (w : List Bool) : Bool := match p with
  | .inn t => decide (s.getD t none = some false) || w.getD t false
  | .out t => decide (s.getD t none = some true)
  | .least k its => decide (worthOf its (leftOf s w) < k)
  | .most k its => decide (k < worthOf its (insOf s))
def dOB : Option Bool → D
  | none => .none
  | some b => .bool b
instance : En (Option Bool) where
  en := dOB
  ok _ := true
  dep := 0
  deq := inferInstance
  eqv x y := by
    cases x <;> cases y
    · rfl
    · rfl
    · rfl
    · show PyData.eqv (.bool _) (.bool _) = _
      rw [PyData.eqv]
      rename_i a b
      cases a <;> cases b <;> rfl
  lay x _ := by cases x <;> rfl
  dp x := by cases x <;> exact Nat.le_refl _
theorem flat_item (its : List (Nat × Int)) (g : D → Bool) (h : ∀ p, g (dItem p) = true) : (its.map dItem).all g = true := by
  rw [List.all_map, List.all_eq_true]; intro x _; exact h x
theorem noL_item (p : Nat × Int) : noL (dItem p) = true := rfl
end DL
end
section
set_option maxHeartbeats 4000000
/-! P1: parts and their methods; the common helpers of the laws. -/
namespace My
open PySem PySem.Spec PyProof.Rows L2 DL
abbrev fl_In : List (Str × Str) := [("In", "thing")]
abbrev fl_Out : List (Str × Str) := [("Out", "thing")]
abbrev fl_Least : List (Str × Str) := [("Least", "bound"), ("Least", "weighed")]
abbrev fl_Most : List (Str × Str) := [("Most", "bound"), ("Most", "weighed")]
noncomputable def b_l_mixed : MS :=
  (sSeq (sAsg 2 (mIx (mLst (eCons (mC (.int 742938285)) (eCons (mC (.int 950706377)) (eCons (mC (.int 1226874159)) (eCons (mC (.int 1343714439)) (eCons (mC (.int 630360017)) (eCons (mC (.int 1389796131)) eNil))))))) (mVar 1)))
  (sSeq (sAsg 3 (mIx (mLst (eCons (mC (.int 2147483647)) (eCons (mC (.int 2147483629)) (eCons (mC (.int 2147483587)) (eCons (mC (.int 2147483579)) (eCons (mC (.int 2147483563)) (eCons (mC (.int 2147483549)) eNil))))))) (mVar 1)))
  (sRet (mBin dMod (mBin dMul (mAdd (mBin dMod (mVar 0) (mBin dPow (mC (.int 10)) (mC (.int 18)))) (mC (.int 1))) (mVar 2)) (mVar 3)))))
noncomputable def f_l_mixed : FD := fnSem 2 4 b_l_mixed
noncomputable def if_l_cell_at_1 : MS :=
  (sIf (tst (mBin dLt (mVar 1) (mUn dLen (mVar 0))))
    (sRet (mIx (mVar 0) (mVar 1)))
    sNil)
noncomputable def b_l_cell_at : MS :=
  (sSeq if_l_cell_at_1
  (sRet (mC (.int 0))))
noncomputable def f_l_cell_at : FD := fnSem 2 2 b_l_cell_at
noncomputable def b_l_truths : MS :=
  (sSeq (sAsg 3 (mIx (mLst (eCons (mC (.int 1234567890123456789)) (eCons (mC (.int 1098765432109876543)) (eCons (mC (.int 2001002003004005007)) (eCons (mC (.int 1618033988749894849)) eNil))))) (mVar 2)))
  (sSeq (sAsg 4 (mBin dMod (mBin dMul (mAdd (mBin dMod (mVar 0) (mBin dPow (mC (.int 10)) (mC (.int 18)))) (mC (.int 1))) (mVar 3)) (mC (.int 2305843009213693951))))
  (sRet (mLc (iRg1 (mVar 1)) (.nm 5) mtYes (mBin dEq (mBin dBand (mBin dShr (mVar 4) (mVar 5)) (mC (.int 1))) (mC (.int 1))) [5]))))
noncomputable def f_l_truths : FD := fnSem 3 6 b_l_truths
noncomputable def i_In : List (Str × ME) := [("thing", (mVar 1))]
noncomputable def f_In : FD := initSem 2 2 "In" i_In
noncomputable def i_Out : List (Str × ME) := [("thing", (mVar 1))]
noncomputable def f_Out : FD := initSem 2 2 "Out" i_Out
noncomputable def i_Least : List (Str × ME) := [("bound", (mVar 1)), ("weighed", (mList (mVar 2)))]
noncomputable def f_Least : FD := initSem 3 3 "Least" i_Least
noncomputable def i_Most : List (Str × ME) := [("bound", (mVar 1)), ("weighed", (mList (mVar 2)))]
noncomputable def f_Most : FD := initSem 3 3 "Most" i_Most
noncomputable def if_part_of_1 : MS :=
  (sIf (tst (mBin dEq (mIx (mVar 0) (mC (.int 0))) (mC (.str "in"))))
    (sRet (mCall f_In [false] (rCons (mIx (mVar 0) (mC (.int 1))) rNil)))
    sNil)
noncomputable def if_part_of_2 : MS :=
  (sIf (tst (mBin dEq (mIx (mVar 0) (mC (.int 0))) (mC (.str "out"))))
    (sRet (mCall f_Out [false] (rCons (mIx (mVar 0) (mC (.int 1))) rNil)))
    sNil)
noncomputable def if_part_of_3 : MS :=
  (sIf (tst (mBin dEq (mIx (mVar 0) (mC (.int 0))) (mC (.str "least"))))
    (sRet (mCall f_Least [false, false] (rCons (mIx (mVar 0) (mC (.int 1))) (rCons (mIx (mVar 0) (mC (.int 2))) rNil))))
    sNil)
noncomputable def b_part_of : MS :=
  (sSeq if_part_of_1
  (sSeq if_part_of_2
  (sSeq if_part_of_3
  (sRet (mCall f_Most [false, false] (rCons (mIx (mVar 0) (mC (.int 1))) (rCons (mIx (mVar 0) (mC (.int 2))) rNil)))))))
noncomputable def f_part_of : FD := fnSem 1 1 b_part_of
noncomputable def b_l_right : MS :=
  (sRet (mAnd (mUn (dIsi "bool") (mVar 0)) (mBin dEq (mVar 0) (mVar 1))))
noncomputable def f_l_right : FD := fnSem 2 2 b_l_right
noncomputable def b_In_holds : MS :=
  (sRet (mIx (mVar 1) (mFld fl_In "thing" (mVar 0))))
noncomputable def f_In_holds : FD := fnSem 3 3 b_In_holds
noncomputable def b_Out_holds : MS :=
  (sRet (mNot (mIx (mVar 2) (mFld fl_Out "thing" (mVar 0)))))
noncomputable def f_Out_holds : FD := fnSem 3 3 b_Out_holds
noncomputable def b_worth_of : MS :=
  (sRet (mUn dSum (mLc (iSeq (mVar 0)) (.tup [(.nm 2), (.nm 3)]) (tst (mIx (mVar 1) (mVar 2))) (mVar 3) [2, 3])))
noncomputable def f_worth_of : FD := fnSem 2 4 b_worth_of
noncomputable def b_Least_holds : MS :=
  (sRet (mBin dGe (mCall f_worth_of [false, false] (rCons (mFld fl_Least "weighed" (mVar 0)) (rCons (mVar 1) rNil))) (mFld fl_Least "bound" (mVar 0))))
noncomputable def f_Least_holds : FD := fnSem 3 3 b_Least_holds
noncomputable def b_Most_holds : MS :=
  (sRet (mBin dLe (mCall f_worth_of [false, false] (rCons (mFld fl_Most "weighed" (mVar 0)) (rCons (mVar 2) rNil))) (mFld fl_Most "bound" (mVar 0))))
noncomputable def f_Most_holds : FD := fnSem 3 3 b_Most_holds
noncomputable def tab_holds : List (Str × FD) := [("In", f_In_holds), ("Out", f_Out_holds), ("Least", f_Least_holds), ("Most", f_Most_holds)]
noncomputable def b_In_sure : MS :=
  (sRet (mBin dIs (mIx (mVar 1) (mFld fl_In "thing" (mVar 0))) (mC (.bool true))))
noncomputable def f_In_sure : FD := fnSem 2 2 b_In_sure
noncomputable def b_Out_sure : MS :=
  (sRet (mBin dIs (mIx (mVar 1) (mFld fl_Out "thing" (mVar 0))) (mC (.bool false))))
noncomputable def f_Out_sure : FD := fnSem 2 2 b_Out_sure
noncomputable def b_Least_sure : MS :=
  (sRet (mBin dGe (mCall f_worth_of [false, false] (rCons (mFld fl_Least "weighed" (mVar 0)) (rCons (mLc (iSeq (mVar 1)) (.nm 2) mtYes (mBin dIs (mVar 2) (mC (.bool true))) [2]) rNil))) (mFld fl_Least "bound" (mVar 0))))
noncomputable def f_Least_sure : FD := fnSem 2 3 b_Least_sure
noncomputable def b_Most_sure : MS :=
  (sRet (mBin dLe (mCall f_worth_of [false, false] (rCons (mFld fl_Most "weighed" (mVar 0)) (rCons (mLc (iSeq (mVar 1)) (.nm 2) mtYes (mBin dIsNot (mVar 2) (mC (.bool false))) [2]) rNil))) (mFld fl_Most "bound" (mVar 0))))
noncomputable def f_Most_sure : FD := fnSem 2 3 b_Most_sure
noncomputable def tab_sure : List (Str × FD) := [("In", f_In_sure), ("Out", f_Out_sure), ("Least", f_Least_sure), ("Most", f_Most_sure)]
noncomputable def b_In_lost : MS :=
  (sRet (mOr (mBin dIs (mIx (mVar 1) (mFld fl_In "thing" (mVar 0))) (mC (.bool false))) (mIx (mVar 2) (mFld fl_In "thing" (mVar 0)))))
noncomputable def f_In_lost : FD := fnSem 3 3 b_In_lost
noncomputable def b_Out_lost : MS :=
  (sRet (mBin dIs (mIx (mVar 1) (mFld fl_Out "thing" (mVar 0))) (mC (.bool true))))
noncomputable def f_Out_lost : FD := fnSem 3 3 b_Out_lost
noncomputable def b_Least_lost : MS :=
  (sSeq (sAsg 3 (mLc (iZp (mVar 1) (mVar 2)) (.tup [(.nm 4), (.nm 5)]) mtYes (mAnd (mBin dIsNot (mVar 4) (mC (.bool false))) (mNot (mVar 5))) [4, 5]))
  (sRet (mBin dLt (mCall f_worth_of [false, false] (rCons (mFld fl_Least "weighed" (mVar 0)) (rCons (mVar 3) rNil))) (mFld fl_Least "bound" (mVar 0)))))
noncomputable def f_Least_lost : FD := fnSem 3 6 b_Least_lost
noncomputable def b_Most_lost : MS :=
  (sRet (mBin dGt (mCall f_worth_of [false, false] (rCons (mFld fl_Most "weighed" (mVar 0)) (rCons (mLc (iSeq (mVar 1)) (.nm 3) mtYes (mBin dIs (mVar 3) (mC (.bool true))) [3]) rNil))) (mFld fl_Most "bound" (mVar 0))))
noncomputable def f_Most_lost : FD := fnSem 3 4 b_Most_lost
noncomputable def tab_lost : List (Str × FD) := [("In", f_In_lost), ("Out", f_Out_lost), ("Least", f_Least_lost), ("Most", f_Most_lost)]
/-! ### helpers -/
theorem r_cell_at (ns : List Int) (k : Nat) : f_l_cell_at [.s ns, .v false (.int k)] = some (.v true (.int (ns.getD k 0)), [.s ns, .v false (.int k)]) := by
  unfold f_l_cell_at b_l_cell_at if_l_cell_at_1
  simp only [x02, x9h, xa1, xa0, x9y, x9z, x9x, x33, x30, x2y, x2z, x32, x31, x52, x50, x4z, x51, x4y, x4w, x4x, xbh, xbm, xbi, xbf, xbg, xbe, xbj, xbl, xbk, xba, xbd, xbb, xbc, x7b, x7c, x7a, x7e, x7d, x78, x79, xb5, xb9, xb6, xb8, xb7, x00, x01, x8j, x8c, x18, x19, x1a, xb3, xb4, x0j, x0g, x0i, x0h, x8d, x8e, x8g, x8f, x82, x83, x84, xat, xar, xas, xal, xak, xap, xao, xan, xam, xeh, x07, x03, x04, x05, x06, x08, x09, x6j, x6c, x6d, x6e, x6f, x6g, x6h, x6i, x2q, x2p, x2r, x2s, xav, xaq, x77, x76, x3m, x3l, xa3, xa4, xab, xac, xad, xae, xaf, xag, xah, xai, xa5, xa6, xa7, xa8, xa9, xaa, xaj, x89, x8a, x8h, x8i, x9m, x9n, x9o, x9p, x9q, x9r, x9s, x6x, x6v, x6w, x20, x1v, x1w, x1y, x1x, x1z, x4v, x4t, x4u, x4q, x4r, x4s, x5b, x1b, x1i, x1h, x1g, x1d, x74, x75, x73, x6z, x6y, x72, x70, x71, x9e, x5k, x5l, x5m, x5n, x8x, x8y, x8z, x90, x91, x92, x93, x2v, x2t, x2u, xei, xej, xek, xel, x8w, x98, x99, xb1, xb2, xb0, xaz, x81, x80, x87, x88, x85, x86, xd1, xd0, x8t, x8s, x6r, x6n, x6p, x6o, x8b, x6k, x6l, x6m, x7z, x1c, x2b, x8v, x9f, x9v, x9w, x9u, x9t, x59, x5a, x8u, x97, x35, x34, x0o, x0a, x0b, x0d, x0c, x0e, x0p, x0q, x0r, x12, x0z, x10, x11, x5o, x5g, x9g, x9a, x9b, x9c, x9d, x0n, x0l, x0m, x36, xef, xeg, x4p, x4o, xax, xay, x53, x55, x54, xaw, xau, x3f, x3e, x3d, x3g, x8p, x8o, x8q, x8r, x7r, x7p, x7q, x7o, x7m, x7k, x7l, x7n, x7i, x7h, x7f, x7g, x14, x16, x17, x15, x13, x1f, x1e, x5j, x5h, x5i, x57, x58, x56, x27, x2a, x29, x28, x9k, x9j, x9l, x9i, x1j, x21, x22, x23, x26, x25, x24, x7v, x7w, x3n, x3h, x3i, x7j, x7s, x7t, x7u, x96, x95, x94, x5e, x5f, x5c, x3p, x3q, x3r, x3s, x3t, x3u, x3v, x3w, x3x, x4a, x4l, x49, x4b, x4c, x3j, x2o, x2j, x2d, x2i, x2m, x2n, x2c, x2h, x2g, x2f, x2e, x2k, x6s, x6u, x6t, x2x, x7y, x2w, x7x, x5u, x5r, x5q, x5v, x5s, x5p, x5t, x6a, x67, x66, x6b, x68, x65, x69, x5z, x5x, x5y, x5w, x60, x64, x63, x61, x62, xbn, xd2, xbt, xd8, xbo, xd3, xbr, xd6, xbp, xd4, xbq, xd5, xbs, xd7, xct, xe8, xcz, xee, xcu, xe9, xcx, xec, xcv, xea, xcw, xeb, xcy, xed, xbu, xd9, xc0, xdf, xbv, xda, xby, xdd, xbw, xdb, xbx, xdc, xbz, xde, xcf, xdu, xcl, xe0, xcg, xdv, xcj, xdy, xch, xdw, xci, xdx, xck, xdz, xc1, xdg, xc7, xdm, xc2, xdh, xc5, xdk, xc3, xdi, xc4, xdj, xc6, xdl, xc8, xdn, xce, xdt, xc9, xdo, xcc, xdr, xca, xdp, xcb, xdq, xcd, xds, xcm, xe1, xcs, xe7, xcn, xe2, xcq, xe5, xco, xe3, xcp, xe4, xcr, xe6, x8k, x8l, x8m, x8n, x0s, x0t, x0u, x0v, x0w, x0x, x0y, x3y, x4n, x41, x4e, x44, x4j, x47, x4g, x4m, x40, x4d, x43, x4i, x46, x4h, x3z, x42, x4f, x45, x4k, x48, x37, x3c, x38, x39, x3a, x3b, x1n, x1o, x1p, x1q, x1r, x1s, x1t, x1u, x1k, x1l, x1m, List.getElem?_cons_zero, List.getElem?_cons_succ, List.set_cons_zero, List.set_cons_succ, List.replicate, List.cons_append, List.nil_append, List.take_succ_cons, List.take_zero, List.getD_cons_zero, List.getD_cons_succ, List.map_cons, List.map_nil, if_true, if_false, Bool.true_and, Bool.and_true, Bool.false_and, Bool.and_false, Bool.true_or, Bool.or_true, Bool.false_or, Bool.or_false, Bool.not_true, Bool.not_false, reduceIte, Bool.false_eq_true, eq_self, Nat.sub_self, sc, noL, noLAll, Option.map_some, Int.toNat_natCast, Nat.reduceSub, Nat.reduceAdd, decide_true, decide_false, List.length_cons, List.length_nil, Int.reduceLT, Int.reduceLE, Int.reduceAdd, Int.reduceMul, Int.reduceSub, Int.reduceNeg, Int.reduceToNat, Int.reducePow, Int.reduceMod, Int.reduceDiv, Int.reduceEq, Nat.reducePow, Nat.reduceMul, Nat.reduceLT, Nat.reduceLeDiff, Int.ofNat_zero, Int.natCast_zero, Int.natCast_one, Int.ofNat_eq_natCast, Int.natCast_nonneg, beq_self_eq_true, Option.isNone_none, Option.isNone_some, Bool.not_eq_true, List.append_nil, Option.bind_some, List.lookup_cons, List.contains_nil, List.contains_cons]
  rw [List.length_map, List.getD_eq_getElem?_getD]
  by_cases h : k < ns.length
  · rw [decide_eq_true (by omega), if_pos rfl, atI_map _ _ _ h, List.getElem?_eq_getElem h]
    simp only [x02, x9h, xa1, xa0, x9y, x9z, x9x, x33, x30, x2y, x2z, x32, x31, x52, x50, x4z, x51, x4y, x4w, x4x, xbh, xbm, xbi, xbf, xbg, xbe, xbj, xbl, xbk, xba, xbd, xbb, xbc, x7b, x7c, x7a, x7e, x7d, x78, x79, xb5, xb9, xb6, xb8, xb7, x00, x01, x8j, x8c, x18, x19, x1a, xb3, xb4, x0j, x0g, x0i, x0h, x8d, x8e, x8g, x8f, x82, x83, x84, xat, xar, xas, xal, xak, xap, xao, xan, xam, xeh, x07, x03, x04, x05, x06, x08, x09, x6j, x6c, x6d, x6e, x6f, x6g, x6h, x6i, x2q, x2p, x2r, x2s, xav, xaq, x77, x76, x3m, x3l, xa3, xa4, xab, xac, xad, xae, xaf, xag, xah, xai, xa5, xa6, xa7, xa8, xa9, xaa, xaj, x89, x8a, x8h, x8i, x9m, x9n, x9o, x9p, x9q, x9r, x9s, x6x, x6v, x6w, x20, x1v, x1w, x1y, x1x, x1z, x4v, x4t, x4u, x4q, x4r, x4s, x5b, x1b, x1i, x1h, x1g, x1d, x74, x75, x73, x6z, x6y, x72, x70, x71, x9e, x5k, x5l, x5m, x5n, x8x, x8y, x8z, x90, x91, x92, x93, x2v, x2t, x2u, xei, xej, xek, xel, x8w, x98, x99, xb1, xb2, xb0, xaz, x81, x80, x87, x88, x85, x86, xd1, xd0, x8t, x8s, x6r, x6n, x6p, x6o, x8b, x6k, x6l, x6m, x7z, x1c, x2b, x8v, x9f, x9v, x9w, x9u, x9t, x59, x5a, x8u, x97, x35, x34, x0o, x0a, x0b, x0d, x0c, x0e, x0p, x0q, x0r, x12, x0z, x10, x11, x5o, x5g, x9g, x9a, x9b, x9c, x9d, x0n, x0l, x0m, x36, xef, xeg, x4p, x4o, xax, xay, x53, x55, x54, xaw, xau, x3f, x3e, x3d, x3g, x8p, x8o, x8q, x8r, x7r, x7p, x7q, x7o, x7m, x7k, x7l, x7n, x7i, x7h, x7f, x7g, x14, x16, x17, x15, x13, x1f, x1e, x5j, x5h, x5i, x57, x58, x56, x27, x2a, x29, x28, x9k, x9j, x9l, x9i, x1j, x21, x22, x23, x26, x25, x24, x7v, x7w, x3n, x3h, x3i, x7j, x7s, x7t, x7u, x96, x95, x94, x5e, x5f, x5c, x3p, x3q, x3r, x3s, x3t, x3u, x3v, x3w, x3x, x4a, x4l, x49, x4b, x4c, x3j, x2o, x2j, x2d, x2i, x2m, x2n, x2c, x2h, x2g, x2f, x2e, x2k, x6s, x6u, x6t, x2x, x7y, x2w, x7x, x5u, x5r, x5q, x5v, x5s, x5p, x5t, x6a, x67, x66, x6b, x68, x65, x69, x5z, x5x, x5y, x5w, x60, x64, x63, x61, x62, xbn, xd2, xbt, xd8, xbo, xd3, xbr, xd6, xbp, xd4, xbq, xd5, xbs, xd7, xct, xe8, xcz, xee, xcu, xe9, xcx, xec, xcv, xea, xcw, xeb, xcy, xed, xbu, xd9, xc0, xdf, xbv, xda, xby, xdd, xbw, xdb, xbx, xdc, xbz, xde, xcf, xdu, xcl, xe0, xcg, xdv, xcj, xdy, xch, xdw, xci, xdx, xck, xdz, xc1, xdg, xc7, xdm, xc2, xdh, xc5, xdk, xc3, xdi, xc4, xdj, xc6, xdl, xc8, xdn, xce, xdt, xc9, xdo, xcc, xdr, xca, xdp, xcb, xdq, xcd, xds, xcm, xe1, xcs, xe7, xcn, xe2, xcq, xe5, xco, xe3, xcp, xe4, xcr, xe6, x8k, x8l, x8m, x8n, x0s, x0t, x0u, x0v, x0w, x0x, x0y, x3y, x4n, x41, x4e, x44, x4j, x47, x4g, x4m, x40, x4d, x43, x4i, x46, x4h, x3z, x42, x4f, x45, x4k, x48, x37, x3c, x38, x39, x3a, x3b, x1n, x1o, x1p, x1q, x1r, x1s, x1t, x1u, x1k, x1l, x1m, List.getElem?_cons_zero, List.getElem?_cons_succ, List.set_cons_zero, List.set_cons_succ, List.replicate, List.cons_append, List.nil_append, List.take_succ_cons, List.take_zero, List.getD_cons_zero, List.getD_cons_succ, List.map_cons, List.map_nil, if_true, if_false, Bool.true_and, Bool.and_true, Bool.false_and, Bool.and_false, Bool.true_or, Bool.or_true, Bool.false_or, Bool.or_false, Bool.not_true, Bool.not_false, reduceIte, Bool.false_eq_true, eq_self, Nat.sub_self, sc, noL, noLAll, Option.map_some, Int.toNat_natCast, Nat.reduceSub, Nat.reduceAdd, decide_true, decide_false, List.length_cons, List.length_nil, Int.reduceLT, Int.reduceLE, Int.reduceAdd, Int.reduceMul, Int.reduceSub, Int.reduceNeg, Int.reduceToNat, Int.reducePow, Int.reduceMod, Int.reduceDiv, Int.reduceEq, Nat.reducePow, Nat.reduceMul, Nat.reduceLT, Nat.reduceLeDiff, Int.ofNat_zero, Int.natCast_zero, Int.natCast_one, Int.ofNat_eq_natCast, Int.natCast_nonneg, beq_self_eq_true, Option.isNone_none, Option.isNone_some, Bool.not_eq_true, List.append_nil, Option.bind_some, List.lookup_cons, List.contains_nil, List.contains_cons]; rfl
  · rw [decide_eq_false (by omega), if_neg Bool.false_ne_true, List.getElem?_eq_none (by omega)]
    simp only [x02, x9h, xa1, xa0, x9y, x9z, x9x, x33, x30, x2y, x2z, x32, x31, x52, x50, x4z, x51, x4y, x4w, x4x, xbh, xbm, xbi, xbf, xbg, xbe, xbj, xbl, xbk, xba, xbd, xbb, xbc, x7b, x7c, x7a, x7e, x7d, x78, x79, xb5, xb9, xb6, xb8, xb7, x00, x01, x8j, x8c, x18, x19, x1a, xb3, xb4, x0j, x0g, x0i, x0h, x8d, x8e, x8g, x8f, x82, x83, x84, xat, xar, xas, xal, xak, xap, xao, xan, xam, xeh, x07, x03, x04, x05, x06, x08, x09, x6j, x6c, x6d, x6e, x6f, x6g, x6h, x6i, x2q, x2p, x2r, x2s, xav, xaq, x77, x76, x3m, x3l, xa3, xa4, xab, xac, xad, xae, xaf, xag, xah, xai, xa5, xa6, xa7, xa8, xa9, xaa, xaj, x89, x8a, x8h, x8i, x9m, x9n, x9o, x9p, x9q, x9r, x9s, x6x, x6v, x6w, x20, x1v, x1w, x1y, x1x, x1z, x4v, x4t, x4u, x4q, x4r, x4s, x5b, x1b, x1i, x1h, x1g, x1d, x74, x75, x73, x6z, x6y, x72, x70, x71, x9e, x5k, x5l, x5m, x5n, x8x, x8y, x8z, x90, x91, x92, x93, x2v, x2t, x2u, xei, xej, xek, xel, x8w, x98, x99, xb1, xb2, xb0, xaz, x81, x80, x87, x88, x85, x86, xd1, xd0, x8t, x8s, x6r, x6n, x6p, x6o, x8b, x6k, x6l, x6m, x7z, x1c, x2b, x8v, x9f, x9v, x9w, x9u, x9t, x59, x5a, x8u, x97, x35, x34, x0o, x0a, x0b, x0d, x0c, x0e, x0p, x0q, x0r, x12, x0z, x10, x11, x5o, x5g, x9g, x9a, x9b, x9c, x9d, x0n, x0l, x0m, x36, xef, xeg, x4p, x4o, xax, xay, x53, x55, x54, xaw, xau, x3f, x3e, x3d, x3g, x8p, x8o, x8q, x8r, x7r, x7p, x7q, x7o, x7m, x7k, x7l, x7n, x7i, x7h, x7f, x7g, x14, x16, x17, x15, x13, x1f, x1e, x5j, x5h, x5i, x57, x58, x56, x27, x2a, x29, x28, x9k, x9j, x9l, x9i, x1j, x21, x22, x23, x26, x25, x24, x7v, x7w, x3n, x3h, x3i, x7j, x7s, x7t, x7u, x96, x95, x94, x5e, x5f, x5c, x3p, x3q, x3r, x3s, x3t, x3u, x3v, x3w, x3x, x4a, x4l, x49, x4b, x4c, x3j, x2o, x2j, x2d, x2i, x2m, x2n, x2c, x2h, x2g, x2f, x2e, x2k, x6s, x6u, x6t, x2x, x7y, x2w, x7x, x5u, x5r, x5q, x5v, x5s, x5p, x5t, x6a, x67, x66, x6b, x68, x65, x69, x5z, x5x, x5y, x5w, x60, x64, x63, x61, x62, xbn, xd2, xbt, xd8, xbo, xd3, xbr, xd6, xbp, xd4, xbq, xd5, xbs, xd7, xct, xe8, xcz, xee, xcu, xe9, xcx, xec, xcv, xea, xcw, xeb, xcy, xed, xbu, xd9, xc0, xdf, xbv, xda, xby, xdd, xbw, xdb, xbx, xdc, xbz, xde, xcf, xdu, xcl, xe0, xcg, xdv, xcj, xdy, xch, xdw, xci, xdx, xck, xdz, xc1, xdg, xc7, xdm, xc2, xdh, xc5, xdk, xc3, xdi, xc4, xdj, xc6, xdl, xc8, xdn, xce, xdt, xc9, xdo, xcc, xdr, xca, xdp, xcb, xdq, xcd, xds, xcm, xe1, xcs, xe7, xcn, xe2, xcq, xe5, xco, xe3, xcp, xe4, xcr, xe6, x8k, x8l, x8m, x8n, x0s, x0t, x0u, x0v, x0w, x0x, x0y, x3y, x4n, x41, x4e, x44, x4j, x47, x4g, x4m, x40, x4d, x43, x4i, x46, x4h, x3z, x42, x4f, x45, x4k, x48, x37, x3c, x38, x39, x3a, x3b, x1n, x1o, x1p, x1q, x1r, x1s, x1t, x1u, x1k, x1l, x1m, List.getElem?_cons_zero, List.getElem?_cons_succ, List.set_cons_zero, List.set_cons_succ, List.replicate, List.cons_append, List.nil_append, List.take_succ_cons, List.take_zero, List.getD_cons_zero, List.getD_cons_succ, List.map_cons, List.map_nil, if_true, if_false, Bool.true_and, Bool.and_true, Bool.false_and, Bool.and_false, Bool.true_or, Bool.or_true, Bool.false_or, Bool.or_false, Bool.not_true, Bool.not_false, reduceIte, Bool.false_eq_true, eq_self, Nat.sub_self, sc, noL, noLAll, Option.map_some, Int.toNat_natCast, Nat.reduceSub, Nat.reduceAdd, decide_true, decide_false, List.length_cons, List.length_nil, Int.reduceLT, Int.reduceLE, Int.reduceAdd, Int.reduceMul, Int.reduceSub, Int.reduceNeg, Int.reduceToNat, Int.reducePow, Int.reduceMod, Int.reduceDiv, Int.reduceEq, Nat.reducePow, Nat.reduceMul, Nat.reduceLT, Nat.reduceLeDiff, Int.ofNat_zero, Int.natCast_zero, Int.natCast_one, Int.ofNat_eq_natCast, Int.natCast_nonneg, beq_self_eq_true, Option.isNone_none, Option.isNone_some, Bool.not_eq_true, List.append_nil, Option.bind_some, List.lookup_cons, List.contains_nil, List.contains_cons]; rfl
def mxF : Nat → Int
  | 0 => 742938285
  | 1 => 950706377
  | 2 => 1226874159
  | 3 => 1343714439
  | 4 => 630360017
  | _ => 1389796131
def mxP : Nat → Int
  | 0 => 2147483647
  | 1 => 2147483629
  | 2 => 2147483587
  | 3 => 2147483579
  | 4 => 2147483563
  | _ => 2147483549
def mixedN (c : Int) (k : Nat) : Nat := ((c % 1000000000000000000 + 1) * mxF k % mxP k).toNat
theorem cmR (x y : Int) (h : -(2 ^ 64) < y ∧ y < 2 ^ 64) : CMul x y := .inr h
theorem mxF_b (k : Nat) : -(2 ^ 64) < mxF k ∧ mxF k < 2 ^ 64 := by unfold mxF; split <;> decide
theorem mxP_b (k : Nat) : 0 < mxP k ∧ mxP k < 2147483648 := by unfold mxP; split <;> decide
theorem r_mixed (c : Int) (k : Nat) (hk : k < 6) : f_l_mixed [.v false (.int c), .v false (.int k)] = some (.v true (.int (mixedN c k)), [.v false (.int c), .v false (.int k)]) := by
  unfold f_l_mixed
  refine fn_ev rfl ?_
  unfold b_l_mixed
  simp only [List.cons_append, List.nil_append, List.replicate, Nat.reduceSub]
  refine Ev.seq (e1 := [.v false (.int c), .v false (.int k), .v true (.int (mxF k)), .u]) (by
    simp only [x02, x9h, xa1, xa0, x9y, x9z, x9x, x33, x30, x2y, x2z, x32, x31, x52, x50, x4z, x51, x4y, x4w, x4x, xbh, xbm, xbi, xbf, xbg, xbe, xbj, xbl, xbk, xba, xbd, xbb, xbc, x7b, x7c, x7a, x7e, x7d, x78, x79, xb5, xb9, xb6, xb8, xb7, x00, x01, x8j, x8c, x18, x19, x1a, xb3, xb4, x0j, x0g, x0i, x0h, x8d, x8e, x8g, x8f, x82, x83, x84, xat, xar, xas, xal, xak, xap, xao, xan, xam, xeh, x07, x03, x04, x05, x06, x08, x09, x6j, x6c, x6d, x6e, x6f, x6g, x6h, x6i, x2q, x2p, x2r, x2s, xav, xaq, x77, x76, x3m, x3l, xa3, xa4, xab, xac, xad, xae, xaf, xag, xah, xai, xa5, xa6, xa7, xa8, xa9, xaa, xaj, x89, x8a, x8h, x8i, x9m, x9n, x9o, x9p, x9q, x9r, x9s, x6x, x6v, x6w, x20, x1v, x1w, x1y, x1x, x1z, x4v, x4t, x4u, x4q, x4r, x4s, x5b, x1b, x1i, x1h, x1g, x1d, x74, x75, x73, x6z, x6y, x72, x70, x71, x9e, x5k, x5l, x5m, x5n, x8x, x8y, x8z, x90, x91, x92, x93, x2v, x2t, x2u, xei, xej, xek, xel, x8w, x98, x99, xb1, xb2, xb0, xaz, x81, x80, x87, x88, x85, x86, xd1, xd0, x8t, x8s, x6r, x6n, x6p, x6o, x8b, x6k, x6l, x6m, x7z, x1c, x2b, x8v, x9f, x9v, x9w, x9u, x9t, x59, x5a, x8u, x97, x35, x34, x0o, x0a, x0b, x0d, x0c, x0e, x0p, x0q, x0r, x12, x0z, x10, x11, x5o, x5g, x9g, x9a, x9b, x9c, x9d, x0n, x0l, x0m, x36, xef, xeg, x4p, x4o, xax, xay, x53, x55, x54, xaw, xau, x3f, x3e, x3d, x3g, x8p, x8o, x8q, x8r, x7r, x7p, x7q, x7o, x7m, x7k, x7l, x7n, x7i, x7h, x7f, x7g, x14, x16, x17, x15, x13, x1f, x1e, x5j, x5h, x5i, x57, x58, x56, x27, x2a, x29, x28, x9k, x9j, x9l, x9i, x1j, x21, x22, x23, x26, x25, x24, x7v, x7w, x3n, x3h, x3i, x7j, x7s, x7t, x7u, x96, x95, x94, x5e, x5f, x5c, x3p, x3q, x3r, x3s, x3t, x3u, x3v, x3w, x3x, x4a, x4l, x49, x4b, x4c, x3j, x2o, x2j, x2d, x2i, x2m, x2n, x2c, x2h, x2g, x2f, x2e, x2k, x6s, x6u, x6t, x2x, x7y, x2w, x7x, x5u, x5r, x5q, x5v, x5s, x5p, x5t, x6a, x67, x66, x6b, x68, x65, x69, x5z, x5x, x5y, x5w, x60, x64, x63, x61, x62, xbn, xd2, xbt, xd8, xbo, xd3, xbr, xd6, xbp, xd4, xbq, xd5, xbs, xd7, xct, xe8, xcz, xee, xcu, xe9, xcx, xec, xcv, xea, xcw, xeb, xcy, xed, xbu, xd9, xc0, xdf, xbv, xda, xby, xdd, xbw, xdb, xbx, xdc, xbz, xde, xcf, xdu, xcl, xe0, xcg, xdv, xcj, xdy, xch, xdw, xci, xdx, xck, xdz, xc1, xdg, xc7, xdm, xc2, xdh, xc5, xdk, xc3, xdi, xc4, xdj, xc6, xdl, xc8, xdn, xce, xdt, xc9, xdo, xcc, xdr, xca, xdp, xcb, xdq, xcd, xds, xcm, xe1, xcs, xe7, xcn, xe2, xcq, xe5, xco, xe3, xcp, xe4, xcr, xe6, x8k, x8l, x8m, x8n, x0s, x0t, x0u, x0v, x0w, x0x, x0y, x3y, x4n, x41, x4e, x44, x4j, x47, x4g, x4m, x40, x4d, x43, x4i, x46, x4h, x3z, x42, x4f, x45, x4k, x48, x37, x3c, x38, x39, x3a, x3b, x1n, x1o, x1p, x1q, x1r, x1s, x1t, x1u, x1k, x1l, x1m, List.getElem?_cons_zero, List.getElem?_cons_succ, List.set_cons_zero, List.set_cons_succ, List.replicate, List.cons_append, List.nil_append, List.take_succ_cons, List.take_zero, List.getD_cons_zero, List.getD_cons_succ, List.map_cons, List.map_nil, if_true, if_false, Bool.true_and, Bool.and_true, Bool.false_and, Bool.and_false, Bool.true_or, Bool.or_true, Bool.false_or, Bool.or_false, Bool.not_true, Bool.not_false, reduceIte, Bool.false_eq_true, eq_self, Nat.sub_self, sc, noL, noLAll, Option.map_some, Int.toNat_natCast, Nat.reduceSub, Nat.reduceAdd, decide_true, decide_false, List.length_cons, List.length_nil, Int.reduceLT, Int.reduceLE, Int.reduceAdd, Int.reduceMul, Int.reduceSub, Int.reduceNeg, Int.reduceToNat, Int.reducePow, Int.reduceMod, Int.reduceDiv, Int.reduceEq, Nat.reducePow, Nat.reduceMul, Nat.reduceLT, Nat.reduceLeDiff, Int.ofNat_zero, Int.natCast_zero, Int.natCast_one, Int.ofNat_eq_natCast, Int.natCast_nonneg, beq_self_eq_true, Option.isNone_none, Option.isNone_some, Bool.not_eq_true, List.append_nil, Option.bind_some, List.lookup_cons, List.contains_nil, List.contains_cons]
    match k, hk with
    | 0, _ | 1, _ | 2, _ | 3, _ | 4, _ | 5, _ => simp only [x02, x9h, xa1, xa0, x9y, x9z, x9x, x33, x30, x2y, x2z, x32, x31, x52, x50, x4z, x51, x4y, x4w, x4x, xbh, xbm, xbi, xbf, xbg, xbe, xbj, xbl, xbk, xba, xbd, xbb, xbc, x7b, x7c, x7a, x7e, x7d, x78, x79, xb5, xb9, xb6, xb8, xb7, x00, x01, x8j, x8c, x18, x19, x1a, xb3, xb4, x0j, x0g, x0i, x0h, x8d, x8e, x8g, x8f, x82, x83, x84, xat, xar, xas, xal, xak, xap, xao, xan, xam, xeh, x07, x03, x04, x05, x06, x08, x09, x6j, x6c, x6d, x6e, x6f, x6g, x6h, x6i, x2q, x2p, x2r, x2s, xav, xaq, x77, x76, x3m, x3l, xa3, xa4, xab, xac, xad, xae, xaf, xag, xah, xai, xa5, xa6, xa7, xa8, xa9, xaa, xaj, x89, x8a, x8h, x8i, x9m, x9n, x9o, x9p, x9q, x9r, x9s, x6x, x6v, x6w, x20, x1v, x1w, x1y, x1x, x1z, x4v, x4t, x4u, x4q, x4r, x4s, x5b, x1b, x1i, x1h, x1g, x1d, x74, x75, x73, x6z, x6y, x72, x70, x71, x9e, x5k, x5l, x5m, x5n, x8x, x8y, x8z, x90, x91, x92, x93, x2v, x2t, x2u, xei, xej, xek, xel, x8w, x98, x99, xb1, xb2, xb0, xaz, x81, x80, x87, x88, x85, x86, xd1, xd0, x8t, x8s, x6r, x6n, x6p, x6o, x8b, x6k, x6l, x6m, x7z, x1c, x2b, x8v, x9f, x9v, x9w, x9u, x9t, x59, x5a, x8u, x97, x35, x34, x0o, x0a, x0b, x0d, x0c, x0e, x0p, x0q, x0r, x12, x0z, x10, x11, x5o, x5g, x9g, x9a, x9b, x9c, x9d, x0n, x0l, x0m, x36, xef, xeg, x4p, x4o, xax, xay, x53, x55, x54, xaw, xau, x3f, x3e, x3d, x3g, x8p, x8o, x8q, x8r, x7r, x7p, x7q, x7o, x7m, x7k, x7l, x7n, x7i, x7h, x7f, x7g, x14, x16, x17, x15, x13, x1f, x1e, x5j, x5h, x5i, x57, x58, x56, x27, x2a, x29, x28, x9k, x9j, x9l, x9i, x1j, x21, x22, x23, x26, x25, x24, x7v, x7w, x3n, x3h, x3i, x7j, x7s, x7t, x7u, x96, x95, x94, x5e, x5f, x5c, x3p, x3q, x3r, x3s, x3t, x3u, x3v, x3w, x3x, x4a, x4l, x49, x4b, x4c, x3j, x2o, x2j, x2d, x2i, x2m, x2n, x2c, x2h, x2g, x2f, x2e, x2k, x6s, x6u, x6t, x2x, x7y, x2w, x7x, x5u, x5r, x5q, x5v, x5s, x5p, x5t, x6a, x67, x66, x6b, x68, x65, x69, x5z, x5x, x5y, x5w, x60, x64, x63, x61, x62, xbn, xd2, xbt, xd8, xbo, xd3, xbr, xd6, xbp, xd4, xbq, xd5, xbs, xd7, xct, xe8, xcz, xee, xcu, xe9, xcx, xec, xcv, xea, xcw, xeb, xcy, xed, xbu, xd9, xc0, xdf, xbv, xda, xby, xdd, xbw, xdb, xbx, xdc, xbz, xde, xcf, xdu, xcl, xe0, xcg, xdv, xcj, xdy, xch, xdw, xci, xdx, xck, xdz, xc1, xdg, xc7, xdm, xc2, xdh, xc5, xdk, xc3, xdi, xc4, xdj, xc6, xdl, xc8, xdn, xce, xdt, xc9, xdo, xcc, xdr, xca, xdp, xcb, xdq, xcd, xds, xcm, xe1, xcs, xe7, xcn, xe2, xcq, xe5, xco, xe3, xcp, xe4, xcr, xe6, x8k, x8l, x8m, x8n, x0s, x0t, x0u, x0v, x0w, x0x, x0y, x3y, x4n, x41, x4e, x44, x4j, x47, x4g, x4m, x40, x4d, x43, x4i, x46, x4h, x3z, x42, x4f, x45, x4k, x48, x37, x3c, x38, x39, x3a, x3b, x1n, x1o, x1p, x1q, x1r, x1s, x1t, x1u, x1k, x1l, x1m, List.getElem?_cons_zero, List.getElem?_cons_succ, List.set_cons_zero, List.set_cons_succ, List.replicate, List.cons_append, List.nil_append, List.take_succ_cons, List.take_zero, List.getD_cons_zero, List.getD_cons_succ, List.map_cons, List.map_nil, if_true, if_false, Bool.true_and, Bool.and_true, Bool.false_and, Bool.and_false, Bool.true_or, Bool.or_true, Bool.false_or, Bool.or_false, Bool.not_true, Bool.not_false, reduceIte, Bool.false_eq_true, eq_self, Nat.sub_self, sc, noL, noLAll, Option.map_some, Int.toNat_natCast, Nat.reduceSub, Nat.reduceAdd, decide_true, decide_false, List.length_cons, List.length_nil, Int.reduceLT, Int.reduceLE, Int.reduceAdd, Int.reduceMul, Int.reduceSub, Int.reduceNeg, Int.reduceToNat, Int.reducePow, Int.reduceMod, Int.reduceDiv, Int.reduceEq, Nat.reducePow, Nat.reduceMul, Nat.reduceLT, Nat.reduceLeDiff, Int.ofNat_zero, Int.natCast_zero, Int.natCast_one, Int.ofNat_eq_natCast, Int.natCast_nonneg, beq_self_eq_true, Option.isNone_none, Option.isNone_some, Bool.not_eq_true, List.append_nil, Option.bind_some, List.lookup_cons, List.contains_nil, List.contains_cons, mxF]) ?_
  refine Ev.seq (e1 := [.v false (.int c), .v false (.int k), .v true (.int (mxF k)), .v true (.int (mxP k))]) (by
    simp only [x02, x9h, xa1, xa0, x9y, x9z, x9x, x33, x30, x2y, x2z, x32, x31, x52, x50, x4z, x51, x4y, x4w, x4x, xbh, xbm, xbi, xbf, xbg, xbe, xbj, xbl, xbk, xba, xbd, xbb, xbc, x7b, x7c, x7a, x7e, x7d, x78, x79, xb5, xb9, xb6, xb8, xb7, x00, x01, x8j, x8c, x18, x19, x1a, xb3, xb4, x0j, x0g, x0i, x0h, x8d, x8e, x8g, x8f, x82, x83, x84, xat, xar, xas, xal, xak, xap, xao, xan, xam, xeh, x07, x03, x04, x05, x06, x08, x09, x6j, x6c, x6d, x6e, x6f, x6g, x6h, x6i, x2q, x2p, x2r, x2s, xav, xaq, x77, x76, x3m, x3l, xa3, xa4, xab, xac, xad, xae, xaf, xag, xah, xai, xa5, xa6, xa7, xa8, xa9, xaa, xaj, x89, x8a, x8h, x8i, x9m, x9n, x9o, x9p, x9q, x9r, x9s, x6x, x6v, x6w, x20, x1v, x1w, x1y, x1x, x1z, x4v, x4t, x4u, x4q, x4r, x4s, x5b, x1b, x1i, x1h, x1g, x1d, x74, x75, x73, x6z, x6y, x72, x70, x71, x9e, x5k, x5l, x5m, x5n, x8x, x8y, x8z, x90, x91, x92, x93, x2v, x2t, x2u, xei, xej, xek, xel, x8w, x98, x99, xb1, xb2, xb0, xaz, x81, x80, x87, x88, x85, x86, xd1, xd0, x8t, x8s, x6r, x6n, x6p, x6o, x8b, x6k, x6l, x6m, x7z, x1c, x2b, x8v, x9f, x9v, x9w, x9u, x9t, x59, x5a, x8u, x97, x35, x34, x0o, x0a, x0b, x0d, x0c, x0e, x0p, x0q, x0r, x12, x0z, x10, x11, x5o, x5g, x9g, x9a, x9b, x9c, x9d, x0n, x0l, x0m, x36, xef, xeg, x4p, x4o, xax, xay, x53, x55, x54, xaw, xau, x3f, x3e, x3d, x3g, x8p, x8o, x8q, x8r, x7r, x7p, x7q, x7o, x7m, x7k, x7l, x7n, x7i, x7h, x7f, x7g, x14, x16, x17, x15, x13, x1f, x1e, x5j, x5h, x5i, x57, x58, x56, x27, x2a, x29, x28, x9k, x9j, x9l, x9i, x1j, x21, x22, x23, x26, x25, x24, x7v, x7w, x3n, x3h, x3i, x7j, x7s, x7t, x7u, x96, x95, x94, x5e, x5f, x5c, x3p, x3q, x3r, x3s, x3t, x3u, x3v, x3w, x3x, x4a, x4l, x49, x4b, x4c, x3j, x2o, x2j, x2d, x2i, x2m, x2n, x2c, x2h, x2g, x2f, x2e, x2k, x6s, x6u, x6t, x2x, x7y, x2w, x7x, x5u, x5r, x5q, x5v, x5s, x5p, x5t, x6a, x67, x66, x6b, x68, x65, x69, x5z, x5x, x5y, x5w, x60, x64, x63, x61, x62, xbn, xd2, xbt, xd8, xbo, xd3, xbr, xd6, xbp, xd4, xbq, xd5, xbs, xd7, xct, xe8, xcz, xee, xcu, xe9, xcx, xec, xcv, xea, xcw, xeb, xcy, xed, xbu, xd9, xc0, xdf, xbv, xda, xby, xdd, xbw, xdb, xbx, xdc, xbz, xde, xcf, xdu, xcl, xe0, xcg, xdv, xcj, xdy, xch, xdw, xci, xdx, xck, xdz, xc1, xdg, xc7, xdm, xc2, xdh, xc5, xdk, xc3, xdi, xc4, xdj, xc6, xdl, xc8, xdn, xce, xdt, xc9, xdo, xcc, xdr, xca, xdp, xcb, xdq, xcd, xds, xcm, xe1, xcs, xe7, xcn, xe2, xcq, xe5, xco, xe3, xcp, xe4, xcr, xe6, x8k, x8l, x8m, x8n, x0s, x0t, x0u, x0v, x0w, x0x, x0y, x3y, x4n, x41, x4e, x44, x4j, x47, x4g, x4m, x40, x4d, x43, x4i, x46, x4h, x3z, x42, x4f, x45, x4k, x48, x37, x3c, x38, x39, x3a, x3b, x1n, x1o, x1p, x1q, x1r, x1s, x1t, x1u, x1k, x1l, x1m, List.getElem?_cons_zero, List.getElem?_cons_succ, List.set_cons_zero, List.set_cons_succ, List.replicate, List.cons_append, List.nil_append, List.take_succ_cons, List.take_zero, List.getD_cons_zero, List.getD_cons_succ, List.map_cons, List.map_nil, if_true, if_false, Bool.true_and, Bool.and_true, Bool.false_and, Bool.and_false, Bool.true_or, Bool.or_true, Bool.false_or, Bool.or_false, Bool.not_true, Bool.not_false, reduceIte, Bool.false_eq_true, eq_self, Nat.sub_self, sc, noL, noLAll, Option.map_some, Int.toNat_natCast, Nat.reduceSub, Nat.reduceAdd, decide_true, decide_false, List.length_cons, List.length_nil, Int.reduceLT, Int.reduceLE, Int.reduceAdd, Int.reduceMul, Int.reduceSub, Int.reduceNeg, Int.reduceToNat, Int.reducePow, Int.reduceMod, Int.reduceDiv, Int.reduceEq, Nat.reducePow, Nat.reduceMul, Nat.reduceLT, Nat.reduceLeDiff, Int.ofNat_zero, Int.natCast_zero, Int.natCast_one, Int.ofNat_eq_natCast, Int.natCast_nonneg, beq_self_eq_true, Option.isNone_none, Option.isNone_some, Bool.not_eq_true, List.append_nil, Option.bind_some, List.lookup_cons, List.contains_nil, List.contains_cons]
    match k, hk with
    | 0, _ | 1, _ | 2, _ | 3, _ | 4, _ | 5, _ => simp only [x02, x9h, xa1, xa0, x9y, x9z, x9x, x33, x30, x2y, x2z, x32, x31, x52, x50, x4z, x51, x4y, x4w, x4x, xbh, xbm, xbi, xbf, xbg, xbe, xbj, xbl, xbk, xba, xbd, xbb, xbc, x7b, x7c, x7a, x7e, x7d, x78, x79, xb5, xb9, xb6, xb8, xb7, x00, x01, x8j, x8c, x18, x19, x1a, xb3, xb4, x0j, x0g, x0i, x0h, x8d, x8e, x8g, x8f, x82, x83, x84, xat, xar, xas, xal, xak, xap, xao, xan, xam, xeh, x07, x03, x04, x05, x06, x08, x09, x6j, x6c, x6d, x6e, x6f, x6g, x6h, x6i, x2q, x2p, x2r, x2s, xav, xaq, x77, x76, x3m, x3l, xa3, xa4, xab, xac, xad, xae, xaf, xag, xah, xai, xa5, xa6, xa7, xa8, xa9, xaa, xaj, x89, x8a, x8h, x8i, x9m, x9n, x9o, x9p, x9q, x9r, x9s, x6x, x6v, x6w, x20, x1v, x1w, x1y, x1x, x1z, x4v, x4t, x4u, x4q, x4r, x4s, x5b, x1b, x1i, x1h, x1g, x1d, x74, x75, x73, x6z, x6y, x72, x70, x71, x9e, x5k, x5l, x5m, x5n, x8x, x8y, x8z, x90, x91, x92, x93, x2v, x2t, x2u, xei, xej, xek, xel, x8w, x98, x99, xb1, xb2, xb0, xaz, x81, x80, x87, x88, x85, x86, xd1, xd0, x8t, x8s, x6r, x6n, x6p, x6o, x8b, x6k, x6l, x6m, x7z, x1c, x2b, x8v, x9f, x9v, x9w, x9u, x9t, x59, x5a, x8u, x97, x35, x34, x0o, x0a, x0b, x0d, x0c, x0e, x0p, x0q, x0r, x12, x0z, x10, x11, x5o, x5g, x9g, x9a, x9b, x9c, x9d, x0n, x0l, x0m, x36, xef, xeg, x4p, x4o, xax, xay, x53, x55, x54, xaw, xau, x3f, x3e, x3d, x3g, x8p, x8o, x8q, x8r, x7r, x7p, x7q, x7o, x7m, x7k, x7l, x7n, x7i, x7h, x7f, x7g, x14, x16, x17, x15, x13, x1f, x1e, x5j, x5h, x5i, x57, x58, x56, x27, x2a, x29, x28, x9k, x9j, x9l, x9i, x1j, x21, x22, x23, x26, x25, x24, x7v, x7w, x3n, x3h, x3i, x7j, x7s, x7t, x7u, x96, x95, x94, x5e, x5f, x5c, x3p, x3q, x3r, x3s, x3t, x3u, x3v, x3w, x3x, x4a, x4l, x49, x4b, x4c, x3j, x2o, x2j, x2d, x2i, x2m, x2n, x2c, x2h, x2g, x2f, x2e, x2k, x6s, x6u, x6t, x2x, x7y, x2w, x7x, x5u, x5r, x5q, x5v, x5s, x5p, x5t, x6a, x67, x66, x6b, x68, x65, x69, x5z, x5x, x5y, x5w, x60, x64, x63, x61, x62, xbn, xd2, xbt, xd8, xbo, xd3, xbr, xd6, xbp, xd4, xbq, xd5, xbs, xd7, xct, xe8, xcz, xee, xcu, xe9, xcx, xec, xcv, xea, xcw, xeb, xcy, xed, xbu, xd9, xc0, xdf, xbv, xda, xby, xdd, xbw, xdb, xbx, xdc, xbz, xde, xcf, xdu, xcl, xe0, xcg, xdv, xcj, xdy, xch, xdw, xci, xdx, xck, xdz, xc1, xdg, xc7, xdm, xc2, xdh, xc5, xdk, xc3, xdi, xc4, xdj, xc6, xdl, xc8, xdn, xce, xdt, xc9, xdo, xcc, xdr, xca, xdp, xcb, xdq, xcd, xds, xcm, xe1, xcs, xe7, xcn, xe2, xcq, xe5, xco, xe3, xcp, xe4, xcr, xe6, x8k, x8l, x8m, x8n, x0s, x0t, x0u, x0v, x0w, x0x, x0y, x3y, x4n, x41, x4e, x44, x4j, x47, x4g, x4m, x40, x4d, x43, x4i, x46, x4h, x3z, x42, x4f, x45, x4k, x48, x37, x3c, x38, x39, x3a, x3b, x1n, x1o, x1p, x1q, x1r, x1s, x1t, x1u, x1k, x1l, x1m, List.getElem?_cons_zero, List.getElem?_cons_succ, List.set_cons_zero, List.set_cons_succ, List.replicate, List.cons_append, List.nil_append, List.take_succ_cons, List.take_zero, List.getD_cons_zero, List.getD_cons_succ, List.map_cons, List.map_nil, if_true, if_false, Bool.true_and, Bool.and_true, Bool.false_and, Bool.and_false, Bool.true_or, Bool.or_true, Bool.false_or, Bool.or_false, Bool.not_true, Bool.not_false, reduceIte, Bool.false_eq_true, eq_self, Nat.sub_self, sc, noL, noLAll, Option.map_some, Int.toNat_natCast, Nat.reduceSub, Nat.reduceAdd, decide_true, decide_false, List.length_cons, List.length_nil, Int.reduceLT, Int.reduceLE, Int.reduceAdd, Int.reduceMul, Int.reduceSub, Int.reduceNeg, Int.reduceToNat, Int.reducePow, Int.reduceMod, Int.reduceDiv, Int.reduceEq, Nat.reducePow, Nat.reduceMul, Nat.reduceLT, Nat.reduceLeDiff, Int.ofNat_zero, Int.natCast_zero, Int.natCast_one, Int.ofNat_eq_natCast, Int.natCast_nonneg, beq_self_eq_true, Option.isNone_none, Option.isNone_some, Bool.not_eq_true, List.append_nil, Option.bind_some, List.lookup_cons, List.contains_nil, List.contains_cons, mxP]) ?_
  refine Ev.ret (e1 := [.v false (.int c), .v false (.int k), .v true (.int (mxF k)), .v true (.int (mxP k))]) (v := .val true (.int (mixedN c k))) (by
    simp only [x02, x9h, xa1, xa0, x9y, x9z, x9x, x33, x30, x2y, x2z, x32, x31, x52, x50, x4z, x51, x4y, x4w, x4x, xbh, xbm, xbi, xbf, xbg, xbe, xbj, xbl, xbk, xba, xbd, xbb, xbc, x7b, x7c, x7a, x7e, x7d, x78, x79, xb5, xb9, xb6, xb8, xb7, x00, x01, x8j, x8c, x18, x19, x1a, xb3, xb4, x0j, x0g, x0i, x0h, x8d, x8e, x8g, x8f, x82, x83, x84, xat, xar, xas, xal, xak, xap, xao, xan, xam, xeh, x07, x03, x04, x05, x06, x08, x09, x6j, x6c, x6d, x6e, x6f, x6g, x6h, x6i, x2q, x2p, x2r, x2s, xav, xaq, x77, x76, x3m, x3l, xa3, xa4, xab, xac, xad, xae, xaf, xag, xah, xai, xa5, xa6, xa7, xa8, xa9, xaa, xaj, x89, x8a, x8h, x8i, x9m, x9n, x9o, x9p, x9q, x9r, x9s, x6x, x6v, x6w, x20, x1v, x1w, x1y, x1x, x1z, x4v, x4t, x4u, x4q, x4r, x4s, x5b, x1b, x1i, x1h, x1g, x1d, x74, x75, x73, x6z, x6y, x72, x70, x71, x9e, x5k, x5l, x5m, x5n, x8x, x8y, x8z, x90, x91, x92, x93, x2v, x2t, x2u, xei, xej, xek, xel, x8w, x98, x99, xb1, xb2, xb0, xaz, x81, x80, x87, x88, x85, x86, xd1, xd0, x8t, x8s, x6r, x6n, x6p, x6o, x8b, x6k, x6l, x6m, x7z, x1c, x2b, x8v, x9f, x9v, x9w, x9u, x9t, x59, x5a, x8u, x97, x35, x34, x0o, x0a, x0b, x0d, x0c, x0e, x0p, x0q, x0r, x12, x0z, x10, x11, x5o, x5g, x9g, x9a, x9b, x9c, x9d, x0n, x0l, x0m, x36, xef, xeg, x4p, x4o, xax, xay, x53, x55, x54, xaw, xau, x3f, x3e, x3d, x3g, x8p, x8o, x8q, x8r, x7r, x7p, x7q, x7o, x7m, x7k, x7l, x7n, x7i, x7h, x7f, x7g, x14, x16, x17, x15, x13, x1f, x1e, x5j, x5h, x5i, x57, x58, x56, x27, x2a, x29, x28, x9k, x9j, x9l, x9i, x1j, x21, x22, x23, x26, x25, x24, x7v, x7w, x3n, x3h, x3i, x7j, x7s, x7t, x7u, x96, x95, x94, x5e, x5f, x5c, x3p, x3q, x3r, x3s, x3t, x3u, x3v, x3w, x3x, x4a, x4l, x49, x4b, x4c, x3j, x2o, x2j, x2d, x2i, x2m, x2n, x2c, x2h, x2g, x2f, x2e, x2k, x6s, x6u, x6t, x2x, x7y, x2w, x7x, x5u, x5r, x5q, x5v, x5s, x5p, x5t, x6a, x67, x66, x6b, x68, x65, x69, x5z, x5x, x5y, x5w, x60, x64, x63, x61, x62, xbn, xd2, xbt, xd8, xbo, xd3, xbr, xd6, xbp, xd4, xbq, xd5, xbs, xd7, xct, xe8, xcz, xee, xcu, xe9, xcx, xec, xcv, xea, xcw, xeb, xcy, xed, xbu, xd9, xc0, xdf, xbv, xda, xby, xdd, xbw, xdb, xbx, xdc, xbz, xde, xcf, xdu, xcl, xe0, xcg, xdv, xcj, xdy, xch, xdw, xci, xdx, xck, xdz, xc1, xdg, xc7, xdm, xc2, xdh, xc5, xdk, xc3, xdi, xc4, xdj, xc6, xdl, xc8, xdn, xce, xdt, xc9, xdo, xcc, xdr, xca, xdp, xcb, xdq, xcd, xds, xcm, xe1, xcs, xe7, xcn, xe2, xcq, xe5, xco, xe3, xcp, xe4, xcr, xe6, x8k, x8l, x8m, x8n, x0s, x0t, x0u, x0v, x0w, x0x, x0y, x3y, x4n, x41, x4e, x44, x4j, x47, x4g, x4m, x40, x4d, x43, x4i, x46, x4h, x3z, x42, x4f, x45, x4k, x48, x37, x3c, x38, x39, x3a, x3b, x1n, x1o, x1p, x1q, x1r, x1s, x1t, x1u, x1k, x1l, x1m, List.getElem?_cons_zero, List.getElem?_cons_succ, List.set_cons_zero, List.set_cons_succ, List.replicate, List.cons_append, List.nil_append, List.take_succ_cons, List.take_zero, List.getD_cons_zero, List.getD_cons_succ, List.map_cons, List.map_nil, if_true, if_false, Bool.true_and, Bool.and_true, Bool.false_and, Bool.and_false, Bool.true_or, Bool.or_true, Bool.false_or, Bool.or_false, Bool.not_true, Bool.not_false, reduceIte, Bool.false_eq_true, eq_self, Nat.sub_self, sc, noL, noLAll, Option.map_some, Int.toNat_natCast, Nat.reduceSub, Nat.reduceAdd, decide_true, decide_false, List.length_cons, List.length_nil, Int.reduceLT, Int.reduceLE, Int.reduceAdd, Int.reduceMul, Int.reduceSub, Int.reduceNeg, Int.reduceToNat, Int.reducePow, Int.reduceMod, Int.reduceDiv, Int.reduceEq, Nat.reducePow, Nat.reduceMul, Nat.reduceLT, Nat.reduceLeDiff, Int.ofNat_zero, Int.natCast_zero, Int.natCast_one, Int.ofNat_eq_natCast, Int.natCast_nonneg, beq_self_eq_true, Option.isNone_none, Option.isNone_some, Bool.not_eq_true, List.append_nil, Option.bind_some, List.lookup_cons, List.contains_nil, List.contains_cons]
    rw [if_pos (cmR _ _ (mxF_b k))]
    simp only [x02, x9h, xa1, xa0, x9y, x9z, x9x, x33, x30, x2y, x2z, x32, x31, x52, x50, x4z, x51, x4y, x4w, x4x, xbh, xbm, xbi, xbf, xbg, xbe, xbj, xbl, xbk, xba, xbd, xbb, xbc, x7b, x7c, x7a, x7e, x7d, x78, x79, xb5, xb9, xb6, xb8, xb7, x00, x01, x8j, x8c, x18, x19, x1a, xb3, xb4, x0j, x0g, x0i, x0h, x8d, x8e, x8g, x8f, x82, x83, x84, xat, xar, xas, xal, xak, xap, xao, xan, xam, xeh, x07, x03, x04, x05, x06, x08, x09, x6j, x6c, x6d, x6e, x6f, x6g, x6h, x6i, x2q, x2p, x2r, x2s, xav, xaq, x77, x76, x3m, x3l, xa3, xa4, xab, xac, xad, xae, xaf, xag, xah, xai, xa5, xa6, xa7, xa8, xa9, xaa, xaj, x89, x8a, x8h, x8i, x9m, x9n, x9o, x9p, x9q, x9r, x9s, x6x, x6v, x6w, x20, x1v, x1w, x1y, x1x, x1z, x4v, x4t, x4u, x4q, x4r, x4s, x5b, x1b, x1i, x1h, x1g, x1d, x74, x75, x73, x6z, x6y, x72, x70, x71, x9e, x5k, x5l, x5m, x5n, x8x, x8y, x8z, x90, x91, x92, x93, x2v, x2t, x2u, xei, xej, xek, xel, x8w, x98, x99, xb1, xb2, xb0, xaz, x81, x80, x87, x88, x85, x86, xd1, xd0, x8t, x8s, x6r, x6n, x6p, x6o, x8b, x6k, x6l, x6m, x7z, x1c, x2b, x8v, x9f, x9v, x9w, x9u, x9t, x59, x5a, x8u, x97, x35, x34, x0o, x0a, x0b, x0d, x0c, x0e, x0p, x0q, x0r, x12, x0z, x10, x11, x5o, x5g, x9g, x9a, x9b, x9c, x9d, x0n, x0l, x0m, x36, xef, xeg, x4p, x4o, xax, xay, x53, x55, x54, xaw, xau, x3f, x3e, x3d, x3g, x8p, x8o, x8q, x8r, x7r, x7p, x7q, x7o, x7m, x7k, x7l, x7n, x7i, x7h, x7f, x7g, x14, x16, x17, x15, x13, x1f, x1e, x5j, x5h, x5i, x57, x58, x56, x27, x2a, x29, x28, x9k, x9j, x9l, x9i, x1j, x21, x22, x23, x26, x25, x24, x7v, x7w, x3n, x3h, x3i, x7j, x7s, x7t, x7u, x96, x95, x94, x5e, x5f, x5c, x3p, x3q, x3r, x3s, x3t, x3u, x3v, x3w, x3x, x4a, x4l, x49, x4b, x4c, x3j, x2o, x2j, x2d, x2i, x2m, x2n, x2c, x2h, x2g, x2f, x2e, x2k, x6s, x6u, x6t, x2x, x7y, x2w, x7x, x5u, x5r, x5q, x5v, x5s, x5p, x5t, x6a, x67, x66, x6b, x68, x65, x69, x5z, x5x, x5y, x5w, x60, x64, x63, x61, x62, xbn, xd2, xbt, xd8, xbo, xd3, xbr, xd6, xbp, xd4, xbq, xd5, xbs, xd7, xct, xe8, xcz, xee, xcu, xe9, xcx, xec, xcv, xea, xcw, xeb, xcy, xed, xbu, xd9, xc0, xdf, xbv, xda, xby, xdd, xbw, xdb, xbx, xdc, xbz, xde, xcf, xdu, xcl, xe0, xcg, xdv, xcj, xdy, xch, xdw, xci, xdx, xck, xdz, xc1, xdg, xc7, xdm, xc2, xdh, xc5, xdk, xc3, xdi, xc4, xdj, xc6, xdl, xc8, xdn, xce, xdt, xc9, xdo, xcc, xdr, xca, xdp, xcb, xdq, xcd, xds, xcm, xe1, xcs, xe7, xcn, xe2, xcq, xe5, xco, xe3, xcp, xe4, xcr, xe6, x8k, x8l, x8m, x8n, x0s, x0t, x0u, x0v, x0w, x0x, x0y, x3y, x4n, x41, x4e, x44, x4j, x47, x4g, x4m, x40, x4d, x43, x4i, x46, x4h, x3z, x42, x4f, x45, x4k, x48, x37, x3c, x38, x39, x3a, x3b, x1n, x1o, x1p, x1q, x1r, x1s, x1t, x1u, x1k, x1l, x1m, List.getElem?_cons_zero, List.getElem?_cons_succ, List.set_cons_zero, List.set_cons_succ, List.replicate, List.cons_append, List.nil_append, List.take_succ_cons, List.take_zero, List.getD_cons_zero, List.getD_cons_succ, List.map_cons, List.map_nil, if_true, if_false, Bool.true_and, Bool.and_true, Bool.false_and, Bool.and_false, Bool.true_or, Bool.or_true, Bool.false_or, Bool.or_false, Bool.not_true, Bool.not_false, reduceIte, Bool.false_eq_true, eq_self, Nat.sub_self, sc, noL, noLAll, Option.map_some, Int.toNat_natCast, Nat.reduceSub, Nat.reduceAdd, decide_true, decide_false, List.length_cons, List.length_nil, Int.reduceLT, Int.reduceLE, Int.reduceAdd, Int.reduceMul, Int.reduceSub, Int.reduceNeg, Int.reduceToNat, Int.reducePow, Int.reduceMod, Int.reduceDiv, Int.reduceEq, Nat.reducePow, Nat.reduceMul, Nat.reduceLT, Nat.reduceLeDiff, Int.ofNat_zero, Int.natCast_zero, Int.natCast_one, Int.ofNat_eq_natCast, Int.natCast_nonneg, beq_self_eq_true, Option.isNone_none, Option.isNone_some, Bool.not_eq_true, List.append_nil, Option.bind_some, List.lookup_cons, List.contains_nil, List.contains_cons, if_pos (mxP_b k).1]
    unfold mixedN
    rw [Int.toNat_of_nonneg (Int.emod_nonneg _ (by have := (mxP_b k).1; omega))]) rfl
def mixedN_lt (c : Int) (k : Nat) : mixedN c k < 2147483648 := by
  unfold mixedN
  have h1 : 0 < mxP k := by unfold mxP; split <;> decide
  have h2 : mxP k < 2147483648 := by unfold mxP; split <;> decide
  have a := Int.emod_nonneg ((c % 1000000000000000000 + 1) * mxF k) (b := mxP k) (by omega)
  have b := Int.emod_lt_of_pos ((c % 1000000000000000000 + 1) * mxF k) h1
  omega
def trF : Nat → Int
  | 0 => 1234567890123456789
  | 1 => 1098765432109876543
  | 2 => 2001002003004005007
  | _ => 1618033988749894849
def truthsL (c : Int) (many k : Nat) : List Bool := (List.range many).map fun p => decide (Builtin.bitAnd (((c % 1000000000000000000 + 1) * trF k % 2305843009213693951) / 2 ^ p) 1 = 1)
theorem truthsL_len (c : Int) (many k : Nat) : (truthsL c many k).length = many := by simp [truthsL]
theorem trF_b (k : Nat) : -(2 ^ 64) < trF k ∧ trF k < 2 ^ 64 := by unfold trF; split <;> decide
theorem r_truths (c : Int) (many k : Nat) (hk : k < 4) (hm : many ≤ 1000) : f_l_truths [.v false (.int c), .v false (.int many), .v false (.int k)] = some (.o false false true ((truthsL c many k).map .bool), [.v false (.int c), .v false (.int many), .v false (.int k)]) := by
  have hz : sizeLine = 16777216 := sizeLine_eq
  unfold f_l_truths
  refine fn_ev rfl ?_
  unfold b_l_truths
  simp only [List.cons_append, List.nil_append, List.replicate, Nat.reduceSub]
  refine Ev.seq (e1 := [.v false (.int c), .v false (.int many), .v false (.int k), .v true (.int (trF k)), .u, .u]) (by
    simp only [x02, x9h, xa1, xa0, x9y, x9z, x9x, x33, x30, x2y, x2z, x32, x31, x52, x50, x4z, x51, x4y, x4w, x4x, xbh, xbm, xbi, xbf, xbg, xbe, xbj, xbl, xbk, xba, xbd, xbb, xbc, x7b, x7c, x7a, x7e, x7d, x78, x79, xb5, xb9, xb6, xb8, xb7, x00, x01, x8j, x8c, x18, x19, x1a, xb3, xb4, x0j, x0g, x0i, x0h, x8d, x8e, x8g, x8f, x82, x83, x84, xat, xar, xas, xal, xak, xap, xao, xan, xam, xeh, x07, x03, x04, x05, x06, x08, x09, x6j, x6c, x6d, x6e, x6f, x6g, x6h, x6i, x2q, x2p, x2r, x2s, xav, xaq, x77, x76, x3m, x3l, xa3, xa4, xab, xac, xad, xae, xaf, xag, xah, xai, xa5, xa6, xa7, xa8, xa9, xaa, xaj, x89, x8a, x8h, x8i, x9m, x9n, x9o, x9p, x9q, x9r, x9s, x6x, x6v, x6w, x20, x1v, x1w, x1y, x1x, x1z, x4v, x4t, x4u, x4q, x4r, x4s, x5b, x1b, x1i, x1h, x1g, x1d, x74, x75, x73, x6z, x6y, x72, x70, x71, x9e, x5k, x5l, x5m, x5n, x8x, x8y, x8z, x90, x91, x92, x93, x2v, x2t, x2u, xei, xej, xek, xel, x8w, x98, x99, xb1, xb2, xb0, xaz, x81, x80, x87, x88, x85, x86, xd1, xd0, x8t, x8s, x6r, x6n, x6p, x6o, x8b, x6k, x6l, x6m, x7z, x1c, x2b, x8v, x9f, x9v, x9w, x9u, x9t, x59, x5a, x8u, x97, x35, x34, x0o, x0a, x0b, x0d, x0c, x0e, x0p, x0q, x0r, x12, x0z, x10, x11, x5o, x5g, x9g, x9a, x9b, x9c, x9d, x0n, x0l, x0m, x36, xef, xeg, x4p, x4o, xax, xay, x53, x55, x54, xaw, xau, x3f, x3e, x3d, x3g, x8p, x8o, x8q, x8r, x7r, x7p, x7q, x7o, x7m, x7k, x7l, x7n, x7i, x7h, x7f, x7g, x14, x16, x17, x15, x13, x1f, x1e, x5j, x5h, x5i, x57, x58, x56, x27, x2a, x29, x28, x9k, x9j, x9l, x9i, x1j, x21, x22, x23, x26, x25, x24, x7v, x7w, x3n, x3h, x3i, x7j, x7s, x7t, x7u, x96, x95, x94, x5e, x5f, x5c, x3p, x3q, x3r, x3s, x3t, x3u, x3v, x3w, x3x, x4a, x4l, x49, x4b, x4c, x3j, x2o, x2j, x2d, x2i, x2m, x2n, x2c, x2h, x2g, x2f, x2e, x2k, x6s, x6u, x6t, x2x, x7y, x2w, x7x, x5u, x5r, x5q, x5v, x5s, x5p, x5t, x6a, x67, x66, x6b, x68, x65, x69, x5z, x5x, x5y, x5w, x60, x64, x63, x61, x62, xbn, xd2, xbt, xd8, xbo, xd3, xbr, xd6, xbp, xd4, xbq, xd5, xbs, xd7, xct, xe8, xcz, xee, xcu, xe9, xcx, xec, xcv, xea, xcw, xeb, xcy, xed, xbu, xd9, xc0, xdf, xbv, xda, xby, xdd, xbw, xdb, xbx, xdc, xbz, xde, xcf, xdu, xcl, xe0, xcg, xdv, xcj, xdy, xch, xdw, xci, xdx, xck, xdz, xc1, xdg, xc7, xdm, xc2, xdh, xc5, xdk, xc3, xdi, xc4, xdj, xc6, xdl, xc8, xdn, xce, xdt, xc9, xdo, xcc, xdr, xca, xdp, xcb, xdq, xcd, xds, xcm, xe1, xcs, xe7, xcn, xe2, xcq, xe5, xco, xe3, xcp, xe4, xcr, xe6, x8k, x8l, x8m, x8n, x0s, x0t, x0u, x0v, x0w, x0x, x0y, x3y, x4n, x41, x4e, x44, x4j, x47, x4g, x4m, x40, x4d, x43, x4i, x46, x4h, x3z, x42, x4f, x45, x4k, x48, x37, x3c, x38, x39, x3a, x3b, x1n, x1o, x1p, x1q, x1r, x1s, x1t, x1u, x1k, x1l, x1m, List.getElem?_cons_zero, List.getElem?_cons_succ, List.set_cons_zero, List.set_cons_succ, List.replicate, List.cons_append, List.nil_append, List.take_succ_cons, List.take_zero, List.getD_cons_zero, List.getD_cons_succ, List.map_cons, List.map_nil, if_true, if_false, Bool.true_and, Bool.and_true, Bool.false_and, Bool.and_false, Bool.true_or, Bool.or_true, Bool.false_or, Bool.or_false, Bool.not_true, Bool.not_false, reduceIte, Bool.false_eq_true, eq_self, Nat.sub_self, sc, noL, noLAll, Option.map_some, Int.toNat_natCast, Nat.reduceSub, Nat.reduceAdd, decide_true, decide_false, List.length_cons, List.length_nil, Int.reduceLT, Int.reduceLE, Int.reduceAdd, Int.reduceMul, Int.reduceSub, Int.reduceNeg, Int.reduceToNat, Int.reducePow, Int.reduceMod, Int.reduceDiv, Int.reduceEq, Nat.reducePow, Nat.reduceMul, Nat.reduceLT, Nat.reduceLeDiff, Int.ofNat_zero, Int.natCast_zero, Int.natCast_one, Int.ofNat_eq_natCast, Int.natCast_nonneg, beq_self_eq_true, Option.isNone_none, Option.isNone_some, Bool.not_eq_true, List.append_nil, Option.bind_some, List.lookup_cons, List.contains_nil, List.contains_cons]
    match k, hk with
    | 0, _ | 1, _ | 2, _ | 3, _ => simp only [x02, x9h, xa1, xa0, x9y, x9z, x9x, x33, x30, x2y, x2z, x32, x31, x52, x50, x4z, x51, x4y, x4w, x4x, xbh, xbm, xbi, xbf, xbg, xbe, xbj, xbl, xbk, xba, xbd, xbb, xbc, x7b, x7c, x7a, x7e, x7d, x78, x79, xb5, xb9, xb6, xb8, xb7, x00, x01, x8j, x8c, x18, x19, x1a, xb3, xb4, x0j, x0g, x0i, x0h, x8d, x8e, x8g, x8f, x82, x83, x84, xat, xar, xas, xal, xak, xap, xao, xan, xam, xeh, x07, x03, x04, x05, x06, x08, x09, x6j, x6c, x6d, x6e, x6f, x6g, x6h, x6i, x2q, x2p, x2r, x2s, xav, xaq, x77, x76, x3m, x3l, xa3, xa4, xab, xac, xad, xae, xaf, xag, xah, xai, xa5, xa6, xa7, xa8, xa9, xaa, xaj, x89, x8a, x8h, x8i, x9m, x9n, x9o, x9p, x9q, x9r, x9s, x6x, x6v, x6w, x20, x1v, x1w, x1y, x1x, x1z, x4v, x4t, x4u, x4q, x4r, x4s, x5b, x1b, x1i, x1h, x1g, x1d, x74, x75, x73, x6z, x6y, x72, x70, x71, x9e, x5k, x5l, x5m, x5n, x8x, x8y, x8z, x90, x91, x92, x93, x2v, x2t, x2u, xei, xej, xek, xel, x8w, x98, x99, xb1, xb2, xb0, xaz, x81, x80, x87, x88, x85, x86, xd1, xd0, x8t, x8s, x6r, x6n, x6p, x6o, x8b, x6k, x6l, x6m, x7z, x1c, x2b, x8v, x9f, x9v, x9w, x9u, x9t, x59, x5a, x8u, x97, x35, x34, x0o, x0a, x0b, x0d, x0c, x0e, x0p, x0q, x0r, x12, x0z, x10, x11, x5o, x5g, x9g, x9a, x9b, x9c, x9d, x0n, x0l, x0m, x36, xef, xeg, x4p, x4o, xax, xay, x53, x55, x54, xaw, xau, x3f, x3e, x3d, x3g, x8p, x8o, x8q, x8r, x7r, x7p, x7q, x7o, x7m, x7k, x7l, x7n, x7i, x7h, x7f, x7g, x14, x16, x17, x15, x13, x1f, x1e, x5j, x5h, x5i, x57, x58, x56, x27, x2a, x29, x28, x9k, x9j, x9l, x9i, x1j, x21, x22, x23, x26, x25, x24, x7v, x7w, x3n, x3h, x3i, x7j, x7s, x7t, x7u, x96, x95, x94, x5e, x5f, x5c, x3p, x3q, x3r, x3s, x3t, x3u, x3v, x3w, x3x, x4a, x4l, x49, x4b, x4c, x3j, x2o, x2j, x2d, x2i, x2m, x2n, x2c, x2h, x2g, x2f, x2e, x2k, x6s, x6u, x6t, x2x, x7y, x2w, x7x, x5u, x5r, x5q, x5v, x5s, x5p, x5t, x6a, x67, x66, x6b, x68, x65, x69, x5z, x5x, x5y, x5w, x60, x64, x63, x61, x62, xbn, xd2, xbt, xd8, xbo, xd3, xbr, xd6, xbp, xd4, xbq, xd5, xbs, xd7, xct, xe8, xcz, xee, xcu, xe9, xcx, xec, xcv, xea, xcw, xeb, xcy, xed, xbu, xd9, xc0, xdf, xbv, xda, xby, xdd, xbw, xdb, xbx, xdc, xbz, xde, xcf, xdu, xcl, xe0, xcg, xdv, xcj, xdy, xch, xdw, xci, xdx, xck, xdz, xc1, xdg, xc7, xdm, xc2, xdh, xc5, xdk, xc3, xdi, xc4, xdj, xc6, xdl, xc8, xdn, xce, xdt, xc9, xdo, xcc, xdr, xca, xdp, xcb, xdq, xcd, xds, xcm, xe1, xcs, xe7, xcn, xe2, xcq, xe5, xco, xe3, xcp, xe4, xcr, xe6, x8k, x8l, x8m, x8n, x0s, x0t, x0u, x0v, x0w, x0x, x0y, x3y, x4n, x41, x4e, x44, x4j, x47, x4g, x4m, x40, x4d, x43, x4i, x46, x4h, x3z, x42, x4f, x45, x4k, x48, x37, x3c, x38, x39, x3a, x3b, x1n, x1o, x1p, x1q, x1r, x1s, x1t, x1u, x1k, x1l, x1m, List.getElem?_cons_zero, List.getElem?_cons_succ, List.set_cons_zero, List.set_cons_succ, List.replicate, List.cons_append, List.nil_append, List.take_succ_cons, List.take_zero, List.getD_cons_zero, List.getD_cons_succ, List.map_cons, List.map_nil, if_true, if_false, Bool.true_and, Bool.and_true, Bool.false_and, Bool.and_false, Bool.true_or, Bool.or_true, Bool.false_or, Bool.or_false, Bool.not_true, Bool.not_false, reduceIte, Bool.false_eq_true, eq_self, Nat.sub_self, sc, noL, noLAll, Option.map_some, Int.toNat_natCast, Nat.reduceSub, Nat.reduceAdd, decide_true, decide_false, List.length_cons, List.length_nil, Int.reduceLT, Int.reduceLE, Int.reduceAdd, Int.reduceMul, Int.reduceSub, Int.reduceNeg, Int.reduceToNat, Int.reducePow, Int.reduceMod, Int.reduceDiv, Int.reduceEq, Nat.reducePow, Nat.reduceMul, Nat.reduceLT, Nat.reduceLeDiff, Int.ofNat_zero, Int.natCast_zero, Int.natCast_one, Int.ofNat_eq_natCast, Int.natCast_nonneg, beq_self_eq_true, Option.isNone_none, Option.isNone_some, Bool.not_eq_true, List.append_nil, Option.bind_some, List.lookup_cons, List.contains_nil, List.contains_cons, trF]) ?_
  refine Ev.seq (e1 := [.v false (.int c), .v false (.int many), .v false (.int k), .v true (.int (trF k)), .v true (.int ((c % 1000000000000000000 + 1) * trF k % 2305843009213693951)), .u]) (by
    simp only [x02, x9h, xa1, xa0, x9y, x9z, x9x, x33, x30, x2y, x2z, x32, x31, x52, x50, x4z, x51, x4y, x4w, x4x, xbh, xbm, xbi, xbf, xbg, xbe, xbj, xbl, xbk, xba, xbd, xbb, xbc, x7b, x7c, x7a, x7e, x7d, x78, x79, xb5, xb9, xb6, xb8, xb7, x00, x01, x8j, x8c, x18, x19, x1a, xb3, xb4, x0j, x0g, x0i, x0h, x8d, x8e, x8g, x8f, x82, x83, x84, xat, xar, xas, xal, xak, xap, xao, xan, xam, xeh, x07, x03, x04, x05, x06, x08, x09, x6j, x6c, x6d, x6e, x6f, x6g, x6h, x6i, x2q, x2p, x2r, x2s, xav, xaq, x77, x76, x3m, x3l, xa3, xa4, xab, xac, xad, xae, xaf, xag, xah, xai, xa5, xa6, xa7, xa8, xa9, xaa, xaj, x89, x8a, x8h, x8i, x9m, x9n, x9o, x9p, x9q, x9r, x9s, x6x, x6v, x6w, x20, x1v, x1w, x1y, x1x, x1z, x4v, x4t, x4u, x4q, x4r, x4s, x5b, x1b, x1i, x1h, x1g, x1d, x74, x75, x73, x6z, x6y, x72, x70, x71, x9e, x5k, x5l, x5m, x5n, x8x, x8y, x8z, x90, x91, x92, x93, x2v, x2t, x2u, xei, xej, xek, xel, x8w, x98, x99, xb1, xb2, xb0, xaz, x81, x80, x87, x88, x85, x86, xd1, xd0, x8t, x8s, x6r, x6n, x6p, x6o, x8b, x6k, x6l, x6m, x7z, x1c, x2b, x8v, x9f, x9v, x9w, x9u, x9t, x59, x5a, x8u, x97, x35, x34, x0o, x0a, x0b, x0d, x0c, x0e, x0p, x0q, x0r, x12, x0z, x10, x11, x5o, x5g, x9g, x9a, x9b, x9c, x9d, x0n, x0l, x0m, x36, xef, xeg, x4p, x4o, xax, xay, x53, x55, x54, xaw, xau, x3f, x3e, x3d, x3g, x8p, x8o, x8q, x8r, x7r, x7p, x7q, x7o, x7m, x7k, x7l, x7n, x7i, x7h, x7f, x7g, x14, x16, x17, x15, x13, x1f, x1e, x5j, x5h, x5i, x57, x58, x56, x27, x2a, x29, x28, x9k, x9j, x9l, x9i, x1j, x21, x22, x23, x26, x25, x24, x7v, x7w, x3n, x3h, x3i, x7j, x7s, x7t, x7u, x96, x95, x94, x5e, x5f, x5c, x3p, x3q, x3r, x3s, x3t, x3u, x3v, x3w, x3x, x4a, x4l, x49, x4b, x4c, x3j, x2o, x2j, x2d, x2i, x2m, x2n, x2c, x2h, x2g, x2f, x2e, x2k, x6s, x6u, x6t, x2x, x7y, x2w, x7x, x5u, x5r, x5q, x5v, x5s, x5p, x5t, x6a, x67, x66, x6b, x68, x65, x69, x5z, x5x, x5y, x5w, x60, x64, x63, x61, x62, xbn, xd2, xbt, xd8, xbo, xd3, xbr, xd6, xbp, xd4, xbq, xd5, xbs, xd7, xct, xe8, xcz, xee, xcu, xe9, xcx, xec, xcv, xea, xcw, xeb, xcy, xed, xbu, xd9, xc0, xdf, xbv, xda, xby, xdd, xbw, xdb, xbx, xdc, xbz, xde, xcf, xdu, xcl, xe0, xcg, xdv, xcj, xdy, xch, xdw, xci, xdx, xck, xdz, xc1, xdg, xc7, xdm, xc2, xdh, xc5, xdk, xc3, xdi, xc4, xdj, xc6, xdl, xc8, xdn, xce, xdt, xc9, xdo, xcc, xdr, xca, xdp, xcb, xdq, xcd, xds, xcm, xe1, xcs, xe7, xcn, xe2, xcq, xe5, xco, xe3, xcp, xe4, xcr, xe6, x8k, x8l, x8m, x8n, x0s, x0t, x0u, x0v, x0w, x0x, x0y, x3y, x4n, x41, x4e, x44, x4j, x47, x4g, x4m, x40, x4d, x43, x4i, x46, x4h, x3z, x42, x4f, x45, x4k, x48, x37, x3c, x38, x39, x3a, x3b, x1n, x1o, x1p, x1q, x1r, x1s, x1t, x1u, x1k, x1l, x1m, List.getElem?_cons_zero, List.getElem?_cons_succ, List.set_cons_zero, List.set_cons_succ, List.replicate, List.cons_append, List.nil_append, List.take_succ_cons, List.take_zero, List.getD_cons_zero, List.getD_cons_succ, List.map_cons, List.map_nil, if_true, if_false, Bool.true_and, Bool.and_true, Bool.false_and, Bool.and_false, Bool.true_or, Bool.or_true, Bool.false_or, Bool.or_false, Bool.not_true, Bool.not_false, reduceIte, Bool.false_eq_true, eq_self, Nat.sub_self, sc, noL, noLAll, Option.map_some, Int.toNat_natCast, Nat.reduceSub, Nat.reduceAdd, decide_true, decide_false, List.length_cons, List.length_nil, Int.reduceLT, Int.reduceLE, Int.reduceAdd, Int.reduceMul, Int.reduceSub, Int.reduceNeg, Int.reduceToNat, Int.reducePow, Int.reduceMod, Int.reduceDiv, Int.reduceEq, Nat.reducePow, Nat.reduceMul, Nat.reduceLT, Nat.reduceLeDiff, Int.ofNat_zero, Int.natCast_zero, Int.natCast_one, Int.ofNat_eq_natCast, Int.natCast_nonneg, beq_self_eq_true, Option.isNone_none, Option.isNone_some, Bool.not_eq_true, List.append_nil, Option.bind_some, List.lookup_cons, List.contains_nil, List.contains_cons]
    rw [if_pos (cmR _ _ (trF_b k))]
    simp only [x02, x9h, xa1, xa0, x9y, x9z, x9x, x33, x30, x2y, x2z, x32, x31, x52, x50, x4z, x51, x4y, x4w, x4x, xbh, xbm, xbi, xbf, xbg, xbe, xbj, xbl, xbk, xba, xbd, xbb, xbc, x7b, x7c, x7a, x7e, x7d, x78, x79, xb5, xb9, xb6, xb8, xb7, x00, x01, x8j, x8c, x18, x19, x1a, xb3, xb4, x0j, x0g, x0i, x0h, x8d, x8e, x8g, x8f, x82, x83, x84, xat, xar, xas, xal, xak, xap, xao, xan, xam, xeh, x07, x03, x04, x05, x06, x08, x09, x6j, x6c, x6d, x6e, x6f, x6g, x6h, x6i, x2q, x2p, x2r, x2s, xav, xaq, x77, x76, x3m, x3l, xa3, xa4, xab, xac, xad, xae, xaf, xag, xah, xai, xa5, xa6, xa7, xa8, xa9, xaa, xaj, x89, x8a, x8h, x8i, x9m, x9n, x9o, x9p, x9q, x9r, x9s, x6x, x6v, x6w, x20, x1v, x1w, x1y, x1x, x1z, x4v, x4t, x4u, x4q, x4r, x4s, x5b, x1b, x1i, x1h, x1g, x1d, x74, x75, x73, x6z, x6y, x72, x70, x71, x9e, x5k, x5l, x5m, x5n, x8x, x8y, x8z, x90, x91, x92, x93, x2v, x2t, x2u, xei, xej, xek, xel, x8w, x98, x99, xb1, xb2, xb0, xaz, x81, x80, x87, x88, x85, x86, xd1, xd0, x8t, x8s, x6r, x6n, x6p, x6o, x8b, x6k, x6l, x6m, x7z, x1c, x2b, x8v, x9f, x9v, x9w, x9u, x9t, x59, x5a, x8u, x97, x35, x34, x0o, x0a, x0b, x0d, x0c, x0e, x0p, x0q, x0r, x12, x0z, x10, x11, x5o, x5g, x9g, x9a, x9b, x9c, x9d, x0n, x0l, x0m, x36, xef, xeg, x4p, x4o, xax, xay, x53, x55, x54, xaw, xau, x3f, x3e, x3d, x3g, x8p, x8o, x8q, x8r, x7r, x7p, x7q, x7o, x7m, x7k, x7l, x7n, x7i, x7h, x7f, x7g, x14, x16, x17, x15, x13, x1f, x1e, x5j, x5h, x5i, x57, x58, x56, x27, x2a, x29, x28, x9k, x9j, x9l, x9i, x1j, x21, x22, x23, x26, x25, x24, x7v, x7w, x3n, x3h, x3i, x7j, x7s, x7t, x7u, x96, x95, x94, x5e, x5f, x5c, x3p, x3q, x3r, x3s, x3t, x3u, x3v, x3w, x3x, x4a, x4l, x49, x4b, x4c, x3j, x2o, x2j, x2d, x2i, x2m, x2n, x2c, x2h, x2g, x2f, x2e, x2k, x6s, x6u, x6t, x2x, x7y, x2w, x7x, x5u, x5r, x5q, x5v, x5s, x5p, x5t, x6a, x67, x66, x6b, x68, x65, x69, x5z, x5x, x5y, x5w, x60, x64, x63, x61, x62, xbn, xd2, xbt, xd8, xbo, xd3, xbr, xd6, xbp, xd4, xbq, xd5, xbs, xd7, xct, xe8, xcz, xee, xcu, xe9, xcx, xec, xcv, xea, xcw, xeb, xcy, xed, xbu, xd9, xc0, xdf, xbv, xda, xby, xdd, xbw, xdb, xbx, xdc, xbz, xde, xcf, xdu, xcl, xe0, xcg, xdv, xcj, xdy, xch, xdw, xci, xdx, xck, xdz, xc1, xdg, xc7, xdm, xc2, xdh, xc5, xdk, xc3, xdi, xc4, xdj, xc6, xdl, xc8, xdn, xce, xdt, xc9, xdo, xcc, xdr, xca, xdp, xcb, xdq, xcd, xds, xcm, xe1, xcs, xe7, xcn, xe2, xcq, xe5, xco, xe3, xcp, xe4, xcr, xe6, x8k, x8l, x8m, x8n, x0s, x0t, x0u, x0v, x0w, x0x, x0y, x3y, x4n, x41, x4e, x44, x4j, x47, x4g, x4m, x40, x4d, x43, x4i, x46, x4h, x3z, x42, x4f, x45, x4k, x48, x37, x3c, x38, x39, x3a, x3b, x1n, x1o, x1p, x1q, x1r, x1s, x1t, x1u, x1k, x1l, x1m, List.getElem?_cons_zero, List.getElem?_cons_succ, List.set_cons_zero, List.set_cons_succ, List.replicate, List.cons_append, List.nil_append, List.take_succ_cons, List.take_zero, List.getD_cons_zero, List.getD_cons_succ, List.map_cons, List.map_nil, if_true, if_false, Bool.true_and, Bool.and_true, Bool.false_and, Bool.and_false, Bool.true_or, Bool.or_true, Bool.false_or, Bool.or_false, Bool.not_true, Bool.not_false, reduceIte, Bool.false_eq_true, eq_self, Nat.sub_self, sc, noL, noLAll, Option.map_some, Int.toNat_natCast, Nat.reduceSub, Nat.reduceAdd, decide_true, decide_false, List.length_cons, List.length_nil, Int.reduceLT, Int.reduceLE, Int.reduceAdd, Int.reduceMul, Int.reduceSub, Int.reduceNeg, Int.reduceToNat, Int.reducePow, Int.reduceMod, Int.reduceDiv, Int.reduceEq, Nat.reducePow, Nat.reduceMul, Nat.reduceLT, Nat.reduceLeDiff, Int.ofNat_zero, Int.natCast_zero, Int.natCast_one, Int.ofNat_eq_natCast, Int.natCast_nonneg, beq_self_eq_true, Option.isNone_none, Option.isNone_some, Bool.not_eq_true, List.append_nil, Option.bind_some, List.lookup_cons, List.contains_nil, List.contains_cons]) ?_
  refine Ev.ret (e1 := [.v false (.int c), .v false (.int many), .v false (.int k), .v true (.int (trF k)), .v true (.int ((c % 1000000000000000000 + 1) * trF k % 2305843009213693951)), .u]) (v := .new true ((truthsL c many k).map .bool)) (by
    simp only [x02, x9h, xa1, xa0, x9y, x9z, x9x, x33, x30, x2y, x2z, x32, x31, x52, x50, x4z, x51, x4y, x4w, x4x, xbh, xbm, xbi, xbf, xbg, xbe, xbj, xbl, xbk, xba, xbd, xbb, xbc, x7b, x7c, x7a, x7e, x7d, x78, x79, xb5, xb9, xb6, xb8, xb7, x00, x01, x8j, x8c, x18, x19, x1a, xb3, xb4, x0j, x0g, x0i, x0h, x8d, x8e, x8g, x8f, x82, x83, x84, xat, xar, xas, xal, xak, xap, xao, xan, xam, xeh, x07, x03, x04, x05, x06, x08, x09, x6j, x6c, x6d, x6e, x6f, x6g, x6h, x6i, x2q, x2p, x2r, x2s, xav, xaq, x77, x76, x3m, x3l, xa3, xa4, xab, xac, xad, xae, xaf, xag, xah, xai, xa5, xa6, xa7, xa8, xa9, xaa, xaj, x89, x8a, x8h, x8i, x9m, x9n, x9o, x9p, x9q, x9r, x9s, x6x, x6v, x6w, x20, x1v, x1w, x1y, x1x, x1z, x4v, x4t, x4u, x4q, x4r, x4s, x5b, x1b, x1i, x1h, x1g, x1d, x74, x75, x73, x6z, x6y, x72, x70, x71, x9e, x5k, x5l, x5m, x5n, x8x, x8y, x8z, x90, x91, x92, x93, x2v, x2t, x2u, xei, xej, xek, xel, x8w, x98, x99, xb1, xb2, xb0, xaz, x81, x80, x87, x88, x85, x86, xd1, xd0, x8t, x8s, x6r, x6n, x6p, x6o, x8b, x6k, x6l, x6m, x7z, x1c, x2b, x8v, x9f, x9v, x9w, x9u, x9t, x59, x5a, x8u, x97, x35, x34, x0o, x0a, x0b, x0d, x0c, x0e, x0p, x0q, x0r, x12, x0z, x10, x11, x5o, x5g, x9g, x9a, x9b, x9c, x9d, x0n, x0l, x0m, x36, xef, xeg, x4p, x4o, xax, xay, x53, x55, x54, xaw, xau, x3f, x3e, x3d, x3g, x8p, x8o, x8q, x8r, x7r, x7p, x7q, x7o, x7m, x7k, x7l, x7n, x7i, x7h, x7f, x7g, x14, x16, x17, x15, x13, x1f, x1e, x5j, x5h, x5i, x57, x58, x56, x27, x2a, x29, x28, x9k, x9j, x9l, x9i, x1j, x21, x22, x23, x26, x25, x24, x7v, x7w, x3n, x3h, x3i, x7j, x7s, x7t, x7u, x96, x95, x94, x5e, x5f, x5c, x3p, x3q, x3r, x3s, x3t, x3u, x3v, x3w, x3x, x4a, x4l, x49, x4b, x4c, x3j, x2o, x2j, x2d, x2i, x2m, x2n, x2c, x2h, x2g, x2f, x2e, x2k, x6s, x6u, x6t, x2x, x7y, x2w, x7x, x5u, x5r, x5q, x5v, x5s, x5p, x5t, x6a, x67, x66, x6b, x68, x65, x69, x5z, x5x, x5y, x5w, x60, x64, x63, x61, x62, xbn, xd2, xbt, xd8, xbo, xd3, xbr, xd6, xbp, xd4, xbq, xd5, xbs, xd7, xct, xe8, xcz, xee, xcu, xe9, xcx, xec, xcv, xea, xcw, xeb, xcy, xed, xbu, xd9, xc0, xdf, xbv, xda, xby, xdd, xbw, xdb, xbx, xdc, xbz, xde, xcf, xdu, xcl, xe0, xcg, xdv, xcj, xdy, xch, xdw, xci, xdx, xck, xdz, xc1, xdg, xc7, xdm, xc2, xdh, xc5, xdk, xc3, xdi, xc4, xdj, xc6, xdl, xc8, xdn, xce, xdt, xc9, xdo, xcc, xdr, xca, xdp, xcb, xdq, xcd, xds, xcm, xe1, xcs, xe7, xcn, xe2, xcq, xe5, xco, xe3, xcp, xe4, xcr, xe6, x8k, x8l, x8m, x8n, x0s, x0t, x0u, x0v, x0w, x0x, x0y, x3y, x4n, x41, x4e, x44, x4j, x47, x4g, x4m, x40, x4d, x43, x4i, x46, x4h, x3z, x42, x4f, x45, x4k, x48, x37, x3c, x38, x39, x3a, x3b, x1n, x1o, x1p, x1q, x1r, x1s, x1t, x1u, x1k, x1l, x1m, List.getElem?_cons_zero, List.getElem?_cons_succ, List.set_cons_zero, List.set_cons_succ, List.replicate, List.cons_append, List.nil_append, List.take_succ_cons, List.take_zero, List.getD_cons_zero, List.getD_cons_succ, List.map_cons, List.map_nil, if_true, if_false, Bool.true_and, Bool.and_true, Bool.false_and, Bool.and_false, Bool.true_or, Bool.or_true, Bool.false_or, Bool.or_false, Bool.not_true, Bool.not_false, reduceIte, Bool.false_eq_true, eq_self, Nat.sub_self, sc, noL, noLAll, Option.map_some, Int.toNat_natCast, Nat.reduceSub, Nat.reduceAdd, decide_true, decide_false, List.length_cons, List.length_nil, Int.reduceLT, Int.reduceLE, Int.reduceAdd, Int.reduceMul, Int.reduceSub, Int.reduceNeg, Int.reduceToNat, Int.reducePow, Int.reduceMod, Int.reduceDiv, Int.reduceEq, Nat.reducePow, Nat.reduceMul, Nat.reduceLT, Nat.reduceLeDiff, Int.ofNat_zero, Int.natCast_zero, Int.natCast_one, Int.ofNat_eq_natCast, Int.natCast_nonneg, beq_self_eq_true, Option.isNone_none, Option.isNone_some, Bool.not_eq_true, List.append_nil, Option.bind_some, List.lookup_cons, List.contains_nil, List.contains_cons, inRg_nat (n := many) (by omega), range_nat]
    rw [lcLoop_map1 (b := true) (g := fun p : Nat => PyData.bool (decide (Builtin.bitAnd (((c % 1000000000000000000 + 1) * trF k % 2305843009213693951) / 2 ^ p) 1 = 1))) (h := fun p _ => by
      simp only [x02, x9h, xa1, xa0, x9y, x9z, x9x, x33, x30, x2y, x2z, x32, x31, x52, x50, x4z, x51, x4y, x4w, x4x, xbh, xbm, xbi, xbf, xbg, xbe, xbj, xbl, xbk, xba, xbd, xbb, xbc, x7b, x7c, x7a, x7e, x7d, x78, x79, xb5, xb9, xb6, xb8, xb7, x00, x01, x8j, x8c, x18, x19, x1a, xb3, xb4, x0j, x0g, x0i, x0h, x8d, x8e, x8g, x8f, x82, x83, x84, xat, xar, xas, xal, xak, xap, xao, xan, xam, xeh, x07, x03, x04, x05, x06, x08, x09, x6j, x6c, x6d, x6e, x6f, x6g, x6h, x6i, x2q, x2p, x2r, x2s, xav, xaq, x77, x76, x3m, x3l, xa3, xa4, xab, xac, xad, xae, xaf, xag, xah, xai, xa5, xa6, xa7, xa8, xa9, xaa, xaj, x89, x8a, x8h, x8i, x9m, x9n, x9o, x9p, x9q, x9r, x9s, x6x, x6v, x6w, x20, x1v, x1w, x1y, x1x, x1z, x4v, x4t, x4u, x4q, x4r, x4s, x5b, x1b, x1i, x1h, x1g, x1d, x74, x75, x73, x6z, x6y, x72, x70, x71, x9e, x5k, x5l, x5m, x5n, x8x, x8y, x8z, x90, x91, x92, x93, x2v, x2t, x2u, xei, xej, xek, xel, x8w, x98, x99, xb1, xb2, xb0, xaz, x81, x80, x87, x88, x85, x86, xd1, xd0, x8t, x8s, x6r, x6n, x6p, x6o, x8b, x6k, x6l, x6m, x7z, x1c, x2b, x8v, x9f, x9v, x9w, x9u, x9t, x59, x5a, x8u, x97, x35, x34, x0o, x0a, x0b, x0d, x0c, x0e, x0p, x0q, x0r, x12, x0z, x10, x11, x5o, x5g, x9g, x9a, x9b, x9c, x9d, x0n, x0l, x0m, x36, xef, xeg, x4p, x4o, xax, xay, x53, x55, x54, xaw, xau, x3f, x3e, x3d, x3g, x8p, x8o, x8q, x8r, x7r, x7p, x7q, x7o, x7m, x7k, x7l, x7n, x7i, x7h, x7f, x7g, x14, x16, x17, x15, x13, x1f, x1e, x5j, x5h, x5i, x57, x58, x56, x27, x2a, x29, x28, x9k, x9j, x9l, x9i, x1j, x21, x22, x23, x26, x25, x24, x7v, x7w, x3n, x3h, x3i, x7j, x7s, x7t, x7u, x96, x95, x94, x5e, x5f, x5c, x3p, x3q, x3r, x3s, x3t, x3u, x3v, x3w, x3x, x4a, x4l, x49, x4b, x4c, x3j, x2o, x2j, x2d, x2i, x2m, x2n, x2c, x2h, x2g, x2f, x2e, x2k, x6s, x6u, x6t, x2x, x7y, x2w, x7x, x5u, x5r, x5q, x5v, x5s, x5p, x5t, x6a, x67, x66, x6b, x68, x65, x69, x5z, x5x, x5y, x5w, x60, x64, x63, x61, x62, xbn, xd2, xbt, xd8, xbo, xd3, xbr, xd6, xbp, xd4, xbq, xd5, xbs, xd7, xct, xe8, xcz, xee, xcu, xe9, xcx, xec, xcv, xea, xcw, xeb, xcy, xed, xbu, xd9, xc0, xdf, xbv, xda, xby, xdd, xbw, xdb, xbx, xdc, xbz, xde, xcf, xdu, xcl, xe0, xcg, xdv, xcj, xdy, xch, xdw, xci, xdx, xck, xdz, xc1, xdg, xc7, xdm, xc2, xdh, xc5, xdk, xc3, xdi, xc4, xdj, xc6, xdl, xc8, xdn, xce, xdt, xc9, xdo, xcc, xdr, xca, xdp, xcb, xdq, xcd, xds, xcm, xe1, xcs, xe7, xcn, xe2, xcq, xe5, xco, xe3, xcp, xe4, xcr, xe6, x8k, x8l, x8m, x8n, x0s, x0t, x0u, x0v, x0w, x0x, x0y, x3y, x4n, x41, x4e, x44, x4j, x47, x4g, x4m, x40, x4d, x43, x4i, x46, x4h, x3z, x42, x4f, x45, x4k, x48, x37, x3c, x38, x39, x3a, x3b, x1n, x1o, x1p, x1q, x1r, x1s, x1t, x1u, x1k, x1l, x1m, List.getElem?_cons_zero, List.getElem?_cons_succ, List.set_cons_zero, List.set_cons_succ, List.replicate, List.cons_append, List.nil_append, List.take_succ_cons, List.take_zero, List.getD_cons_zero, List.getD_cons_succ, List.map_cons, List.map_nil, if_true, if_false, Bool.true_and, Bool.and_true, Bool.false_and, Bool.and_false, Bool.true_or, Bool.or_true, Bool.false_or, Bool.or_false, Bool.not_true, Bool.not_false, reduceIte, Bool.false_eq_true, eq_self, Nat.sub_self, sc, noL, noLAll, Option.map_some, Int.toNat_natCast, Nat.reduceSub, Nat.reduceAdd, decide_true, decide_false, List.length_cons, List.length_nil, Int.reduceLT, Int.reduceLE, Int.reduceAdd, Int.reduceMul, Int.reduceSub, Int.reduceNeg, Int.reduceToNat, Int.reducePow, Int.reduceMod, Int.reduceDiv, Int.reduceEq, Nat.reducePow, Nat.reduceMul, Nat.reduceLT, Nat.reduceLeDiff, Int.ofNat_zero, Int.natCast_zero, Int.natCast_one, Int.ofNat_eq_natCast, Int.natCast_nonneg, beq_self_eq_true, Option.isNone_none, Option.isNone_some, Bool.not_eq_true, List.append_nil, Option.bind_some, List.lookup_cons, List.contains_nil, List.contains_cons])]
    simp only [x02, x9h, xa1, xa0, x9y, x9z, x9x, x33, x30, x2y, x2z, x32, x31, x52, x50, x4z, x51, x4y, x4w, x4x, xbh, xbm, xbi, xbf, xbg, xbe, xbj, xbl, xbk, xba, xbd, xbb, xbc, x7b, x7c, x7a, x7e, x7d, x78, x79, xb5, xb9, xb6, xb8, xb7, x00, x01, x8j, x8c, x18, x19, x1a, xb3, xb4, x0j, x0g, x0i, x0h, x8d, x8e, x8g, x8f, x82, x83, x84, xat, xar, xas, xal, xak, xap, xao, xan, xam, xeh, x07, x03, x04, x05, x06, x08, x09, x6j, x6c, x6d, x6e, x6f, x6g, x6h, x6i, x2q, x2p, x2r, x2s, xav, xaq, x77, x76, x3m, x3l, xa3, xa4, xab, xac, xad, xae, xaf, xag, xah, xai, xa5, xa6, xa7, xa8, xa9, xaa, xaj, x89, x8a, x8h, x8i, x9m, x9n, x9o, x9p, x9q, x9r, x9s, x6x, x6v, x6w, x20, x1v, x1w, x1y, x1x, x1z, x4v, x4t, x4u, x4q, x4r, x4s, x5b, x1b, x1i, x1h, x1g, x1d, x74, x75, x73, x6z, x6y, x72, x70, x71, x9e, x5k, x5l, x5m, x5n, x8x, x8y, x8z, x90, x91, x92, x93, x2v, x2t, x2u, xei, xej, xek, xel, x8w, x98, x99, xb1, xb2, xb0, xaz, x81, x80, x87, x88, x85, x86, xd1, xd0, x8t, x8s, x6r, x6n, x6p, x6o, x8b, x6k, x6l, x6m, x7z, x1c, x2b, x8v, x9f, x9v, x9w, x9u, x9t, x59, x5a, x8u, x97, x35, x34, x0o, x0a, x0b, x0d, x0c, x0e, x0p, x0q, x0r, x12, x0z, x10, x11, x5o, x5g, x9g, x9a, x9b, x9c, x9d, x0n, x0l, x0m, x36, xef, xeg, x4p, x4o, xax, xay, x53, x55, x54, xaw, xau, x3f, x3e, x3d, x3g, x8p, x8o, x8q, x8r, x7r, x7p, x7q, x7o, x7m, x7k, x7l, x7n, x7i, x7h, x7f, x7g, x14, x16, x17, x15, x13, x1f, x1e, x5j, x5h, x5i, x57, x58, x56, x27, x2a, x29, x28, x9k, x9j, x9l, x9i, x1j, x21, x22, x23, x26, x25, x24, x7v, x7w, x3n, x3h, x3i, x7j, x7s, x7t, x7u, x96, x95, x94, x5e, x5f, x5c, x3p, x3q, x3r, x3s, x3t, x3u, x3v, x3w, x3x, x4a, x4l, x49, x4b, x4c, x3j, x2o, x2j, x2d, x2i, x2m, x2n, x2c, x2h, x2g, x2f, x2e, x2k, x6s, x6u, x6t, x2x, x7y, x2w, x7x, x5u, x5r, x5q, x5v, x5s, x5p, x5t, x6a, x67, x66, x6b, x68, x65, x69, x5z, x5x, x5y, x5w, x60, x64, x63, x61, x62, xbn, xd2, xbt, xd8, xbo, xd3, xbr, xd6, xbp, xd4, xbq, xd5, xbs, xd7, xct, xe8, xcz, xee, xcu, xe9, xcx, xec, xcv, xea, xcw, xeb, xcy, xed, xbu, xd9, xc0, xdf, xbv, xda, xby, xdd, xbw, xdb, xbx, xdc, xbz, xde, xcf, xdu, xcl, xe0, xcg, xdv, xcj, xdy, xch, xdw, xci, xdx, xck, xdz, xc1, xdg, xc7, xdm, xc2, xdh, xc5, xdk, xc3, xdi, xc4, xdj, xc6, xdl, xc8, xdn, xce, xdt, xc9, xdo, xcc, xdr, xca, xdp, xcb, xdq, xcd, xds, xcm, xe1, xcs, xe7, xcn, xe2, xcq, xe5, xco, xe3, xcp, xe4, xcr, xe6, x8k, x8l, x8m, x8n, x0s, x0t, x0u, x0v, x0w, x0x, x0y, x3y, x4n, x41, x4e, x44, x4j, x47, x4g, x4m, x40, x4d, x43, x4i, x46, x4h, x3z, x42, x4f, x45, x4k, x48, x37, x3c, x38, x39, x3a, x3b, x1n, x1o, x1p, x1q, x1r, x1s, x1t, x1u, x1k, x1l, x1m, List.getElem?_cons_zero, List.getElem?_cons_succ, List.set_cons_zero, List.set_cons_succ, List.replicate, List.cons_append, List.nil_append, List.take_succ_cons, List.take_zero, List.getD_cons_zero, List.getD_cons_succ, List.map_cons, List.map_nil, if_true, if_false, Bool.true_and, Bool.and_true, Bool.false_and, Bool.and_false, Bool.true_or, Bool.or_true, Bool.false_or, Bool.or_false, Bool.not_true, Bool.not_false, reduceIte, Bool.false_eq_true, eq_self, Nat.sub_self, sc, noL, noLAll, Option.map_some, Int.toNat_natCast, Nat.reduceSub, Nat.reduceAdd, decide_true, decide_false, List.length_cons, List.length_nil, Int.reduceLT, Int.reduceLE, Int.reduceAdd, Int.reduceMul, Int.reduceSub, Int.reduceNeg, Int.reduceToNat, Int.reducePow, Int.reduceMod, Int.reduceDiv, Int.reduceEq, Nat.reducePow, Nat.reduceMul, Nat.reduceLT, Nat.reduceLeDiff, Int.ofNat_zero, Int.natCast_zero, Int.natCast_one, Int.ofNat_eq_natCast, Int.natCast_nonneg, beq_self_eq_true, Option.isNone_none, Option.isNone_some, Bool.not_eq_true, List.append_nil, Option.bind_some, List.lookup_cons, List.contains_nil, List.contains_cons, flagT, map_snd, List.length_map, List.length_range, x6q (n := many) (by omega)]
    unfold truthsL
    rw [List.map_map]
    rfl) rfl
theorem r_right (a b : Bool) : f_l_right [.v false (.bool a), .v false (.bool b)] = some (.v true (.bool (decide (a = b))), [.v false (.bool a), .v false (.bool b)]) := by
  unfold f_l_right b_l_right
  simp only [x02, x9h, xa1, xa0, x9y, x9z, x9x, x33, x30, x2y, x2z, x32, x31, x52, x50, x4z, x51, x4y, x4w, x4x, xbh, xbm, xbi, xbf, xbg, xbe, xbj, xbl, xbk, xba, xbd, xbb, xbc, x7b, x7c, x7a, x7e, x7d, x78, x79, xb5, xb9, xb6, xb8, xb7, x00, x01, x8j, x8c, x18, x19, x1a, xb3, xb4, x0j, x0g, x0i, x0h, x8d, x8e, x8g, x8f, x82, x83, x84, xat, xar, xas, xal, xak, xap, xao, xan, xam, xeh, x07, x03, x04, x05, x06, x08, x09, x6j, x6c, x6d, x6e, x6f, x6g, x6h, x6i, x2q, x2p, x2r, x2s, xav, xaq, x77, x76, x3m, x3l, xa3, xa4, xab, xac, xad, xae, xaf, xag, xah, xai, xa5, xa6, xa7, xa8, xa9, xaa, xaj, x89, x8a, x8h, x8i, x9m, x9n, x9o, x9p, x9q, x9r, x9s, x6x, x6v, x6w, x20, x1v, x1w, x1y, x1x, x1z, x4v, x4t, x4u, x4q, x4r, x4s, x5b, x1b, x1i, x1h, x1g, x1d, x74, x75, x73, x6z, x6y, x72, x70, x71, x9e, x5k, x5l, x5m, x5n, x8x, x8y, x8z, x90, x91, x92, x93, x2v, x2t, x2u, xei, xej, xek, xel, x8w, x98, x99, xb1, xb2, xb0, xaz, x81, x80, x87, x88, x85, x86, xd1, xd0, x8t, x8s, x6r, x6n, x6p, x6o, x8b, x6k, x6l, x6m, x7z, x1c, x2b, x8v, x9f, x9v, x9w, x9u, x9t, x59, x5a, x8u, x97, x35, x34, x0o, x0a, x0b, x0d, x0c, x0e, x0p, x0q, x0r, x12, x0z, x10, x11, x5o, x5g, x9g, x9a, x9b, x9c, x9d, x0n, x0l, x0m, x36, xef, xeg, x4p, x4o, xax, xay, x53, x55, x54, xaw, xau, x3f, x3e, x3d, x3g, x8p, x8o, x8q, x8r, x7r, x7p, x7q, x7o, x7m, x7k, x7l, x7n, x7i, x7h, x7f, x7g, x14, x16, x17, x15, x13, x1f, x1e, x5j, x5h, x5i, x57, x58, x56, x27, x2a, x29, x28, x9k, x9j, x9l, x9i, x1j, x21, x22, x23, x26, x25, x24, x7v, x7w, x3n, x3h, x3i, x7j, x7s, x7t, x7u, x96, x95, x94, x5e, x5f, x5c, x3p, x3q, x3r, x3s, x3t, x3u, x3v, x3w, x3x, x4a, x4l, x49, x4b, x4c, x3j, x2o, x2j, x2d, x2i, x2m, x2n, x2c, x2h, x2g, x2f, x2e, x2k, x6s, x6u, x6t, x2x, x7y, x2w, x7x, x5u, x5r, x5q, x5v, x5s, x5p, x5t, x6a, x67, x66, x6b, x68, x65, x69, x5z, x5x, x5y, x5w, x60, x64, x63, x61, x62, xbn, xd2, xbt, xd8, xbo, xd3, xbr, xd6, xbp, xd4, xbq, xd5, xbs, xd7, xct, xe8, xcz, xee, xcu, xe9, xcx, xec, xcv, xea, xcw, xeb, xcy, xed, xbu, xd9, xc0, xdf, xbv, xda, xby, xdd, xbw, xdb, xbx, xdc, xbz, xde, xcf, xdu, xcl, xe0, xcg, xdv, xcj, xdy, xch, xdw, xci, xdx, xck, xdz, xc1, xdg, xc7, xdm, xc2, xdh, xc5, xdk, xc3, xdi, xc4, xdj, xc6, xdl, xc8, xdn, xce, xdt, xc9, xdo, xcc, xdr, xca, xdp, xcb, xdq, xcd, xds, xcm, xe1, xcs, xe7, xcn, xe2, xcq, xe5, xco, xe3, xcp, xe4, xcr, xe6, x8k, x8l, x8m, x8n, x0s, x0t, x0u, x0v, x0w, x0x, x0y, x3y, x4n, x41, x4e, x44, x4j, x47, x4g, x4m, x40, x4d, x43, x4i, x46, x4h, x3z, x42, x4f, x45, x4k, x48, x37, x3c, x38, x39, x3a, x3b, x1n, x1o, x1p, x1q, x1r, x1s, x1t, x1u, x1k, x1l, x1m, List.getElem?_cons_zero, List.getElem?_cons_succ, List.set_cons_zero, List.set_cons_succ, List.replicate, List.cons_append, List.nil_append, List.take_succ_cons, List.take_zero, List.getD_cons_zero, List.getD_cons_succ, List.map_cons, List.map_nil, if_true, if_false, Bool.true_and, Bool.and_true, Bool.false_and, Bool.and_false, Bool.true_or, Bool.or_true, Bool.false_or, Bool.or_false, Bool.not_true, Bool.not_false, reduceIte, Bool.false_eq_true, eq_self, Nat.sub_self, sc, noL, noLAll, Option.map_some, Int.toNat_natCast, Nat.reduceSub, Nat.reduceAdd, decide_true, decide_false, List.length_cons, List.length_nil, Int.reduceLT, Int.reduceLE, Int.reduceAdd, Int.reduceMul, Int.reduceSub, Int.reduceNeg, Int.reduceToNat, Int.reducePow, Int.reduceMod, Int.reduceDiv, Int.reduceEq, Nat.reducePow, Nat.reduceMul, Nat.reduceLT, Nat.reduceLeDiff, Int.ofNat_zero, Int.natCast_zero, Int.natCast_one, Int.ofNat_eq_natCast, Int.natCast_nonneg, beq_self_eq_true, Option.isNone_none, Option.isNone_some, Bool.not_eq_true, List.append_nil, Option.bind_some, List.lookup_cons, List.contains_nil, List.contains_cons]
/-! ### objects of parts -/
def obC : Part → Str
  | .inn _ => "In"
  | .out _ => "Out"
  | .least _ _ => "Least"
  | .most _ _ => "Most"
def obFs : Part → List (Str × D)
  | .inn t => [("thing", .int (t : Nat))]
  | .out t => [("thing", .int (t : Nat))]
  | .least k its => [("bound", .int k), ("weighed", .list (its.map dItem))]
  | .most k its => [("bound", .int k), ("weighed", .list (its.map dItem))]
def obF : Part → Bool
  | .inn _ => true
  | .out _ => true
  | _ => false
theorem r_In (t : Nat) : f_In [.v false (.int t)] = some (.ob true "In" [("thing", .int t)], [.v false (.int t)]) := by
  unfold f_In i_In
  simp only [x02, x9h, xa1, xa0, x9y, x9z, x9x, x33, x30, x2y, x2z, x32, x31, x52, x50, x4z, x51, x4y, x4w, x4x, xbh, xbm, xbi, xbf, xbg, xbe, xbj, xbl, xbk, xba, xbd, xbb, xbc, x7b, x7c, x7a, x7e, x7d, x78, x79, xb5, xb9, xb6, xb8, xb7, x00, x01, x8j, x8c, x18, x19, x1a, xb3, xb4, x0j, x0g, x0i, x0h, x8d, x8e, x8g, x8f, x82, x83, x84, xat, xar, xas, xal, xak, xap, xao, xan, xam, xeh, x07, x03, x04, x05, x06, x08, x09, x6j, x6c, x6d, x6e, x6f, x6g, x6h, x6i, x2q, x2p, x2r, x2s, xav, xaq, x77, x76, x3m, x3l, xa3, xa4, xab, xac, xad, xae, xaf, xag, xah, xai, xa5, xa6, xa7, xa8, xa9, xaa, xaj, x89, x8a, x8h, x8i, x9m, x9n, x9o, x9p, x9q, x9r, x9s, x6x, x6v, x6w, x20, x1v, x1w, x1y, x1x, x1z, x4v, x4t, x4u, x4q, x4r, x4s, x5b, x1b, x1i, x1h, x1g, x1d, x74, x75, x73, x6z, x6y, x72, x70, x71, x9e, x5k, x5l, x5m, x5n, x8x, x8y, x8z, x90, x91, x92, x93, x2v, x2t, x2u, xei, xej, xek, xel, x8w, x98, x99, xb1, xb2, xb0, xaz, x81, x80, x87, x88, x85, x86, xd1, xd0, x8t, x8s, x6r, x6n, x6p, x6o, x8b, x6k, x6l, x6m, x7z, x1c, x2b, x8v, x9f, x9v, x9w, x9u, x9t, x59, x5a, x8u, x97, x35, x34, x0o, x0a, x0b, x0d, x0c, x0e, x0p, x0q, x0r, x12, x0z, x10, x11, x5o, x5g, x9g, x9a, x9b, x9c, x9d, x0n, x0l, x0m, x36, xef, xeg, x4p, x4o, xax, xay, x53, x55, x54, xaw, xau, x3f, x3e, x3d, x3g, x8p, x8o, x8q, x8r, x7r, x7p, x7q, x7o, x7m, x7k, x7l, x7n, x7i, x7h, x7f, x7g, x14, x16, x17, x15, x13, x1f, x1e, x5j, x5h, x5i, x57, x58, x56, x27, x2a, x29, x28, x9k, x9j, x9l, x9i, x1j, x21, x22, x23, x26, x25, x24, x7v, x7w, x3n, x3h, x3i, x7j, x7s, x7t, x7u, x96, x95, x94, x5e, x5f, x5c, x3p, x3q, x3r, x3s, x3t, x3u, x3v, x3w, x3x, x4a, x4l, x49, x4b, x4c, x3j, x2o, x2j, x2d, x2i, x2m, x2n, x2c, x2h, x2g, x2f, x2e, x2k, x6s, x6u, x6t, x2x, x7y, x2w, x7x, x5u, x5r, x5q, x5v, x5s, x5p, x5t, x6a, x67, x66, x6b, x68, x65, x69, x5z, x5x, x5y, x5w, x60, x64, x63, x61, x62, xbn, xd2, xbt, xd8, xbo, xd3, xbr, xd6, xbp, xd4, xbq, xd5, xbs, xd7, xct, xe8, xcz, xee, xcu, xe9, xcx, xec, xcv, xea, xcw, xeb, xcy, xed, xbu, xd9, xc0, xdf, xbv, xda, xby, xdd, xbw, xdb, xbx, xdc, xbz, xde, xcf, xdu, xcl, xe0, xcg, xdv, xcj, xdy, xch, xdw, xci, xdx, xck, xdz, xc1, xdg, xc7, xdm, xc2, xdh, xc5, xdk, xc3, xdi, xc4, xdj, xc6, xdl, xc8, xdn, xce, xdt, xc9, xdo, xcc, xdr, xca, xdp, xcb, xdq, xcd, xds, xcm, xe1, xcs, xe7, xcn, xe2, xcq, xe5, xco, xe3, xcp, xe4, xcr, xe6, x8k, x8l, x8m, x8n, x0s, x0t, x0u, x0v, x0w, x0x, x0y, x3y, x4n, x41, x4e, x44, x4j, x47, x4g, x4m, x40, x4d, x43, x4i, x46, x4h, x3z, x42, x4f, x45, x4k, x48, x37, x3c, x38, x39, x3a, x3b, x1n, x1o, x1p, x1q, x1r, x1s, x1t, x1u, x1k, x1l, x1m, List.getElem?_cons_zero, List.getElem?_cons_succ, List.set_cons_zero, List.set_cons_succ, List.replicate, List.cons_append, List.nil_append, List.take_succ_cons, List.take_zero, List.getD_cons_zero, List.getD_cons_succ, List.map_cons, List.map_nil, if_true, if_false, Bool.true_and, Bool.and_true, Bool.false_and, Bool.and_false, Bool.true_or, Bool.or_true, Bool.false_or, Bool.or_false, Bool.not_true, Bool.not_false, reduceIte, Bool.false_eq_true, eq_self, Nat.sub_self, sc, noL, noLAll, Option.map_some, Int.toNat_natCast, Nat.reduceSub, Nat.reduceAdd, decide_true, decide_false, List.length_cons, List.length_nil, Int.reduceLT, Int.reduceLE, Int.reduceAdd, Int.reduceMul, Int.reduceSub, Int.reduceNeg, Int.reduceToNat, Int.reducePow, Int.reduceMod, Int.reduceDiv, Int.reduceEq, Nat.reducePow, Nat.reduceMul, Nat.reduceLT, Nat.reduceLeDiff, Int.ofNat_zero, Int.natCast_zero, Int.natCast_one, Int.ofNat_eq_natCast, Int.natCast_nonneg, beq_self_eq_true, Option.isNone_none, Option.isNone_some, Bool.not_eq_true, List.append_nil, Option.bind_some, List.lookup_cons, List.contains_nil, List.contains_cons]
theorem r_Out (t : Nat) : f_Out [.v false (.int t)] = some (.ob true "Out" [("thing", .int t)], [.v false (.int t)]) := by
  unfold f_Out i_Out
  simp only [x02, x9h, xa1, xa0, x9y, x9z, x9x, x33, x30, x2y, x2z, x32, x31, x52, x50, x4z, x51, x4y, x4w, x4x, xbh, xbm, xbi, xbf, xbg, xbe, xbj, xbl, xbk, xba, xbd, xbb, xbc, x7b, x7c, x7a, x7e, x7d, x78, x79, xb5, xb9, xb6, xb8, xb7, x00, x01, x8j, x8c, x18, x19, x1a, xb3, xb4, x0j, x0g, x0i, x0h, x8d, x8e, x8g, x8f, x82, x83, x84, xat, xar, xas, xal, xak, xap, xao, xan, xam, xeh, x07, x03, x04, x05, x06, x08, x09, x6j, x6c, x6d, x6e, x6f, x6g, x6h, x6i, x2q, x2p, x2r, x2s, xav, xaq, x77, x76, x3m, x3l, xa3, xa4, xab, xac, xad, xae, xaf, xag, xah, xai, xa5, xa6, xa7, xa8, xa9, xaa, xaj, x89, x8a, x8h, x8i, x9m, x9n, x9o, x9p, x9q, x9r, x9s, x6x, x6v, x6w, x20, x1v, x1w, x1y, x1x, x1z, x4v, x4t, x4u, x4q, x4r, x4s, x5b, x1b, x1i, x1h, x1g, x1d, x74, x75, x73, x6z, x6y, x72, x70, x71, x9e, x5k, x5l, x5m, x5n, x8x, x8y, x8z, x90, x91, x92, x93, x2v, x2t, x2u, xei, xej, xek, xel, x8w, x98, x99, xb1, xb2, xb0, xaz, x81, x80, x87, x88, x85, x86, xd1, xd0, x8t, x8s, x6r, x6n, x6p, x6o, x8b, x6k, x6l, x6m, x7z, x1c, x2b, x8v, x9f, x9v, x9w, x9u, x9t, x59, x5a, x8u, x97, x35, x34, x0o, x0a, x0b, x0d, x0c, x0e, x0p, x0q, x0r, x12, x0z, x10, x11, x5o, x5g, x9g, x9a, x9b, x9c, x9d, x0n, x0l, x0m, x36, xef, xeg, x4p, x4o, xax, xay, x53, x55, x54, xaw, xau, x3f, x3e, x3d, x3g, x8p, x8o, x8q, x8r, x7r, x7p, x7q, x7o, x7m, x7k, x7l, x7n, x7i, x7h, x7f, x7g, x14, x16, x17, x15, x13, x1f, x1e, x5j, x5h, x5i, x57, x58, x56, x27, x2a, x29, x28, x9k, x9j, x9l, x9i, x1j, x21, x22, x23, x26, x25, x24, x7v, x7w, x3n, x3h, x3i, x7j, x7s, x7t, x7u, x96, x95, x94, x5e, x5f, x5c, x3p, x3q, x3r, x3s, x3t, x3u, x3v, x3w, x3x, x4a, x4l, x49, x4b, x4c, x3j, x2o, x2j, x2d, x2i, x2m, x2n, x2c, x2h, x2g, x2f, x2e, x2k, x6s, x6u, x6t, x2x, x7y, x2w, x7x, x5u, x5r, x5q, x5v, x5s, x5p, x5t, x6a, x67, x66, x6b, x68, x65, x69, x5z, x5x, x5y, x5w, x60, x64, x63, x61, x62, xbn, xd2, xbt, xd8, xbo, xd3, xbr, xd6, xbp, xd4, xbq, xd5, xbs, xd7, xct, xe8, xcz, xee, xcu, xe9, xcx, xec, xcv, xea, xcw, xeb, xcy, xed, xbu, xd9, xc0, xdf, xbv, xda, xby, xdd, xbw, xdb, xbx, xdc, xbz, xde, xcf, xdu, xcl, xe0, xcg, xdv, xcj, xdy, xch, xdw, xci, xdx, xck, xdz, xc1, xdg, xc7, xdm, xc2, xdh, xc5, xdk, xc3, xdi, xc4, xdj, xc6, xdl, xc8, xdn, xce, xdt, xc9, xdo, xcc, xdr, xca, xdp, xcb, xdq, xcd, xds, xcm, xe1, xcs, xe7, xcn, xe2, xcq, xe5, xco, xe3, xcp, xe4, xcr, xe6, x8k, x8l, x8m, x8n, x0s, x0t, x0u, x0v, x0w, x0x, x0y, x3y, x4n, x41, x4e, x44, x4j, x47, x4g, x4m, x40, x4d, x43, x4i, x46, x4h, x3z, x42, x4f, x45, x4k, x48, x37, x3c, x38, x39, x3a, x3b, x1n, x1o, x1p, x1q, x1r, x1s, x1t, x1u, x1k, x1l, x1m, List.getElem?_cons_zero, List.getElem?_cons_succ, List.set_cons_zero, List.set_cons_succ, List.replicate, List.cons_append, List.nil_append, List.take_succ_cons, List.take_zero, List.getD_cons_zero, List.getD_cons_succ, List.map_cons, List.map_nil, if_true, if_false, Bool.true_and, Bool.and_true, Bool.false_and, Bool.and_false, Bool.true_or, Bool.or_true, Bool.false_or, Bool.or_false, Bool.not_true, Bool.not_false, reduceIte, Bool.false_eq_true, eq_self, Nat.sub_self, sc, noL, noLAll, Option.map_some, Int.toNat_natCast, Nat.reduceSub, Nat.reduceAdd, decide_true, decide_false, List.length_cons, List.length_nil, Int.reduceLT, Int.reduceLE, Int.reduceAdd, Int.reduceMul, Int.reduceSub, Int.reduceNeg, Int.reduceToNat, Int.reducePow, Int.reduceMod, Int.reduceDiv, Int.reduceEq, Nat.reducePow, Nat.reduceMul, Nat.reduceLT, Nat.reduceLeDiff, Int.ofNat_zero, Int.natCast_zero, Int.natCast_one, Int.ofNat_eq_natCast, Int.natCast_nonneg, beq_self_eq_true, Option.isNone_none, Option.isNone_some, Bool.not_eq_true, List.append_nil, Option.bind_some, List.lookup_cons, List.contains_nil, List.contains_cons]
theorem r_Least (k : Int) (its : List (Nat × Int)) : f_Least [.v false (.int k), .v false (.list (its.map dItem))] = some (.ob false "Least" [("bound", .int k), ("weighed", .list (its.map dItem))], [.v false (.int k), .v false (.list (its.map dItem))]) := by
  unfold f_Least i_Least
  simp only [x02, x9h, xa1, xa0, x9y, x9z, x9x, x33, x30, x2y, x2z, x32, x31, x52, x50, x4z, x51, x4y, x4w, x4x, xbh, xbm, xbi, xbf, xbg, xbe, xbj, xbl, xbk, xba, xbd, xbb, xbc, x7b, x7c, x7a, x7e, x7d, x78, x79, xb5, xb9, xb6, xb8, xb7, x00, x01, x8j, x8c, x18, x19, x1a, xb3, xb4, x0j, x0g, x0i, x0h, x8d, x8e, x8g, x8f, x82, x83, x84, xat, xar, xas, xal, xak, xap, xao, xan, xam, xeh, x07, x03, x04, x05, x06, x08, x09, x6j, x6c, x6d, x6e, x6f, x6g, x6h, x6i, x2q, x2p, x2r, x2s, xav, xaq, x77, x76, x3m, x3l, xa3, xa4, xab, xac, xad, xae, xaf, xag, xah, xai, xa5, xa6, xa7, xa8, xa9, xaa, xaj, x89, x8a, x8h, x8i, x9m, x9n, x9o, x9p, x9q, x9r, x9s, x6x, x6v, x6w, x20, x1v, x1w, x1y, x1x, x1z, x4v, x4t, x4u, x4q, x4r, x4s, x5b, x1b, x1i, x1h, x1g, x1d, x74, x75, x73, x6z, x6y, x72, x70, x71, x9e, x5k, x5l, x5m, x5n, x8x, x8y, x8z, x90, x91, x92, x93, x2v, x2t, x2u, xei, xej, xek, xel, x8w, x98, x99, xb1, xb2, xb0, xaz, x81, x80, x87, x88, x85, x86, xd1, xd0, x8t, x8s, x6r, x6n, x6p, x6o, x8b, x6k, x6l, x6m, x7z, x1c, x2b, x8v, x9f, x9v, x9w, x9u, x9t, x59, x5a, x8u, x97, x35, x34, x0o, x0a, x0b, x0d, x0c, x0e, x0p, x0q, x0r, x12, x0z, x10, x11, x5o, x5g, x9g, x9a, x9b, x9c, x9d, x0n, x0l, x0m, x36, xef, xeg, x4p, x4o, xax, xay, x53, x55, x54, xaw, xau, x3f, x3e, x3d, x3g, x8p, x8o, x8q, x8r, x7r, x7p, x7q, x7o, x7m, x7k, x7l, x7n, x7i, x7h, x7f, x7g, x14, x16, x17, x15, x13, x1f, x1e, x5j, x5h, x5i, x57, x58, x56, x27, x2a, x29, x28, x9k, x9j, x9l, x9i, x1j, x21, x22, x23, x26, x25, x24, x7v, x7w, x3n, x3h, x3i, x7j, x7s, x7t, x7u, x96, x95, x94, x5e, x5f, x5c, x3p, x3q, x3r, x3s, x3t, x3u, x3v, x3w, x3x, x4a, x4l, x49, x4b, x4c, x3j, x2o, x2j, x2d, x2i, x2m, x2n, x2c, x2h, x2g, x2f, x2e, x2k, x6s, x6u, x6t, x2x, x7y, x2w, x7x, x5u, x5r, x5q, x5v, x5s, x5p, x5t, x6a, x67, x66, x6b, x68, x65, x69, x5z, x5x, x5y, x5w, x60, x64, x63, x61, x62, xbn, xd2, xbt, xd8, xbo, xd3, xbr, xd6, xbp, xd4, xbq, xd5, xbs, xd7, xct, xe8, xcz, xee, xcu, xe9, xcx, xec, xcv, xea, xcw, xeb, xcy, xed, xbu, xd9, xc0, xdf, xbv, xda, xby, xdd, xbw, xdb, xbx, xdc, xbz, xde, xcf, xdu, xcl, xe0, xcg, xdv, xcj, xdy, xch, xdw, xci, xdx, xck, xdz, xc1, xdg, xc7, xdm, xc2, xdh, xc5, xdk, xc3, xdi, xc4, xdj, xc6, xdl, xc8, xdn, xce, xdt, xc9, xdo, xcc, xdr, xca, xdp, xcb, xdq, xcd, xds, xcm, xe1, xcs, xe7, xcn, xe2, xcq, xe5, xco, xe3, xcp, xe4, xcr, xe6, x8k, x8l, x8m, x8n, x0s, x0t, x0u, x0v, x0w, x0x, x0y, x3y, x4n, x41, x4e, x44, x4j, x47, x4g, x4m, x40, x4d, x43, x4i, x46, x4h, x3z, x42, x4f, x45, x4k, x48, x37, x3c, x38, x39, x3a, x3b, x1n, x1o, x1p, x1q, x1r, x1s, x1t, x1u, x1k, x1l, x1m, List.getElem?_cons_zero, List.getElem?_cons_succ, List.set_cons_zero, List.set_cons_succ, List.replicate, List.cons_append, List.nil_append, List.take_succ_cons, List.take_zero, List.getD_cons_zero, List.getD_cons_succ, List.map_cons, List.map_nil, if_true, if_false, Bool.true_and, Bool.and_true, Bool.false_and, Bool.and_false, Bool.true_or, Bool.or_true, Bool.false_or, Bool.or_false, Bool.not_true, Bool.not_false, reduceIte, Bool.false_eq_true, eq_self, Nat.sub_self, sc, noL, noLAll, Option.map_some, Int.toNat_natCast, Nat.reduceSub, Nat.reduceAdd, decide_true, decide_false, List.length_cons, List.length_nil, Int.reduceLT, Int.reduceLE, Int.reduceAdd, Int.reduceMul, Int.reduceSub, Int.reduceNeg, Int.reduceToNat, Int.reducePow, Int.reduceMod, Int.reduceDiv, Int.reduceEq, Nat.reducePow, Nat.reduceMul, Nat.reduceLT, Nat.reduceLeDiff, Int.ofNat_zero, Int.natCast_zero, Int.natCast_one, Int.ofNat_eq_natCast, Int.natCast_nonneg, beq_self_eq_true, Option.isNone_none, Option.isNone_some, Bool.not_eq_true, List.append_nil, Option.bind_some, List.lookup_cons, List.contains_nil, List.contains_cons]
theorem r_Most (k : Int) (its : List (Nat × Int)) : f_Most [.v false (.int k), .v false (.list (its.map dItem))] = some (.ob false "Most" [("bound", .int k), ("weighed", .list (its.map dItem))], [.v false (.int k), .v false (.list (its.map dItem))]) := by
  unfold f_Most i_Most
  simp only [x02, x9h, xa1, xa0, x9y, x9z, x9x, x33, x30, x2y, x2z, x32, x31, x52, x50, x4z, x51, x4y, x4w, x4x, xbh, xbm, xbi, xbf, xbg, xbe, xbj, xbl, xbk, xba, xbd, xbb, xbc, x7b, x7c, x7a, x7e, x7d, x78, x79, xb5, xb9, xb6, xb8, xb7, x00, x01, x8j, x8c, x18, x19, x1a, xb3, xb4, x0j, x0g, x0i, x0h, x8d, x8e, x8g, x8f, x82, x83, x84, xat, xar, xas, xal, xak, xap, xao, xan, xam, xeh, x07, x03, x04, x05, x06, x08, x09, x6j, x6c, x6d, x6e, x6f, x6g, x6h, x6i, x2q, x2p, x2r, x2s, xav, xaq, x77, x76, x3m, x3l, xa3, xa4, xab, xac, xad, xae, xaf, xag, xah, xai, xa5, xa6, xa7, xa8, xa9, xaa, xaj, x89, x8a, x8h, x8i, x9m, x9n, x9o, x9p, x9q, x9r, x9s, x6x, x6v, x6w, x20, x1v, x1w, x1y, x1x, x1z, x4v, x4t, x4u, x4q, x4r, x4s, x5b, x1b, x1i, x1h, x1g, x1d, x74, x75, x73, x6z, x6y, x72, x70, x71, x9e, x5k, x5l, x5m, x5n, x8x, x8y, x8z, x90, x91, x92, x93, x2v, x2t, x2u, xei, xej, xek, xel, x8w, x98, x99, xb1, xb2, xb0, xaz, x81, x80, x87, x88, x85, x86, xd1, xd0, x8t, x8s, x6r, x6n, x6p, x6o, x8b, x6k, x6l, x6m, x7z, x1c, x2b, x8v, x9f, x9v, x9w, x9u, x9t, x59, x5a, x8u, x97, x35, x34, x0o, x0a, x0b, x0d, x0c, x0e, x0p, x0q, x0r, x12, x0z, x10, x11, x5o, x5g, x9g, x9a, x9b, x9c, x9d, x0n, x0l, x0m, x36, xef, xeg, x4p, x4o, xax, xay, x53, x55, x54, xaw, xau, x3f, x3e, x3d, x3g, x8p, x8o, x8q, x8r, x7r, x7p, x7q, x7o, x7m, x7k, x7l, x7n, x7i, x7h, x7f, x7g, x14, x16, x17, x15, x13, x1f, x1e, x5j, x5h, x5i, x57, x58, x56, x27, x2a, x29, x28, x9k, x9j, x9l, x9i, x1j, x21, x22, x23, x26, x25, x24, x7v, x7w, x3n, x3h, x3i, x7j, x7s, x7t, x7u, x96, x95, x94, x5e, x5f, x5c, x3p, x3q, x3r, x3s, x3t, x3u, x3v, x3w, x3x, x4a, x4l, x49, x4b, x4c, x3j, x2o, x2j, x2d, x2i, x2m, x2n, x2c, x2h, x2g, x2f, x2e, x2k, x6s, x6u, x6t, x2x, x7y, x2w, x7x, x5u, x5r, x5q, x5v, x5s, x5p, x5t, x6a, x67, x66, x6b, x68, x65, x69, x5z, x5x, x5y, x5w, x60, x64, x63, x61, x62, xbn, xd2, xbt, xd8, xbo, xd3, xbr, xd6, xbp, xd4, xbq, xd5, xbs, xd7, xct, xe8, xcz, xee, xcu, xe9, xcx, xec, xcv, xea, xcw, xeb, xcy, xed, xbu, xd9, xc0, xdf, xbv, xda, xby, xdd, xbw, xdb, xbx, xdc, xbz, xde, xcf, xdu, xcl, xe0, xcg, xdv, xcj, xdy, xch, xdw, xci, xdx, xck, xdz, xc1, xdg, xc7, xdm, xc2, xdh, xc5, xdk, xc3, xdi, xc4, xdj, xc6, xdl, xc8, xdn, xce, xdt, xc9, xdo, xcc, xdr, xca, xdp, xcb, xdq, xcd, xds, xcm, xe1, xcs, xe7, xcn, xe2, xcq, xe5, xco, xe3, xcp, xe4, xcr, xe6, x8k, x8l, x8m, x8n, x0s, x0t, x0u, x0v, x0w, x0x, x0y, x3y, x4n, x41, x4e, x44, x4j, x47, x4g, x4m, x40, x4d, x43, x4i, x46, x4h, x3z, x42, x4f, x45, x4k, x48, x37, x3c, x38, x39, x3a, x3b, x1n, x1o, x1p, x1q, x1r, x1s, x1t, x1u, x1k, x1l, x1m, List.getElem?_cons_zero, List.getElem?_cons_succ, List.set_cons_zero, List.set_cons_succ, List.replicate, List.cons_append, List.nil_append, List.take_succ_cons, List.take_zero, List.getD_cons_zero, List.getD_cons_succ, List.map_cons, List.map_nil, if_true, if_false, Bool.true_and, Bool.and_true, Bool.false_and, Bool.and_false, Bool.true_or, Bool.or_true, Bool.false_or, Bool.or_false, Bool.not_true, Bool.not_false, reduceIte, Bool.false_eq_true, eq_self, Nat.sub_self, sc, noL, noLAll, Option.map_some, Int.toNat_natCast, Nat.reduceSub, Nat.reduceAdd, decide_true, decide_false, List.length_cons, List.length_nil, Int.reduceLT, Int.reduceLE, Int.reduceAdd, Int.reduceMul, Int.reduceSub, Int.reduceNeg, Int.reduceToNat, Int.reducePow, Int.reduceMod, Int.reduceDiv, Int.reduceEq, Nat.reducePow, Nat.reduceMul, Nat.reduceLT, Nat.reduceLeDiff, Int.ofNat_zero, Int.natCast_zero, Int.natCast_one, Int.ofNat_eq_natCast, Int.natCast_nonneg, beq_self_eq_true, Option.isNone_none, Option.isNone_some, Bool.not_eq_true, List.append_nil, Option.bind_some, List.lookup_cons, List.contains_nil, List.contains_cons]
theorem r_part_of (p : Part) : f_part_of [.v false (dPart p)] = some (.ob (obF p) (obC p) (obFs p), [.v false (dPart p)]) := by
  unfold f_part_of b_part_of if_part_of_1 if_part_of_2 if_part_of_3
  cases p <;> (unfold dPart; simp only [x02, x9h, xa1, xa0, x9y, x9z, x9x, x33, x30, x2y, x2z, x32, x31, x52, x50, x4z, x51, x4y, x4w, x4x, xbh, xbm, xbi, xbf, xbg, xbe, xbj, xbl, xbk, xba, xbd, xbb, xbc, x7b, x7c, x7a, x7e, x7d, x78, x79, xb5, xb9, xb6, xb8, xb7, x00, x01, x8j, x8c, x18, x19, x1a, xb3, xb4, x0j, x0g, x0i, x0h, x8d, x8e, x8g, x8f, x82, x83, x84, xat, xar, xas, xal, xak, xap, xao, xan, xam, xeh, x07, x03, x04, x05, x06, x08, x09, x6j, x6c, x6d, x6e, x6f, x6g, x6h, x6i, x2q, x2p, x2r, x2s, xav, xaq, x77, x76, x3m, x3l, xa3, xa4, xab, xac, xad, xae, xaf, xag, xah, xai, xa5, xa6, xa7, xa8, xa9, xaa, xaj, x89, x8a, x8h, x8i, x9m, x9n, x9o, x9p, x9q, x9r, x9s, x6x, x6v, x6w, x20, x1v, x1w, x1y, x1x, x1z, x4v, x4t, x4u, x4q, x4r, x4s, x5b, x1b, x1i, x1h, x1g, x1d, x74, x75, x73, x6z, x6y, x72, x70, x71, x9e, x5k, x5l, x5m, x5n, x8x, x8y, x8z, x90, x91, x92, x93, x2v, x2t, x2u, xei, xej, xek, xel, x8w, x98, x99, xb1, xb2, xb0, xaz, x81, x80, x87, x88, x85, x86, xd1, xd0, x8t, x8s, x6r, x6n, x6p, x6o, x8b, x6k, x6l, x6m, x7z, x1c, x2b, x8v, x9f, x9v, x9w, x9u, x9t, x59, x5a, x8u, x97, x35, x34, x0o, x0a, x0b, x0d, x0c, x0e, x0p, x0q, x0r, x12, x0z, x10, x11, x5o, x5g, x9g, x9a, x9b, x9c, x9d, x0n, x0l, x0m, x36, xef, xeg, x4p, x4o, xax, xay, x53, x55, x54, xaw, xau, x3f, x3e, x3d, x3g, x8p, x8o, x8q, x8r, x7r, x7p, x7q, x7o, x7m, x7k, x7l, x7n, x7i, x7h, x7f, x7g, x14, x16, x17, x15, x13, x1f, x1e, x5j, x5h, x5i, x57, x58, x56, x27, x2a, x29, x28, x9k, x9j, x9l, x9i, x1j, x21, x22, x23, x26, x25, x24, x7v, x7w, x3n, x3h, x3i, x7j, x7s, x7t, x7u, x96, x95, x94, x5e, x5f, x5c, x3p, x3q, x3r, x3s, x3t, x3u, x3v, x3w, x3x, x4a, x4l, x49, x4b, x4c, x3j, x2o, x2j, x2d, x2i, x2m, x2n, x2c, x2h, x2g, x2f, x2e, x2k, x6s, x6u, x6t, x2x, x7y, x2w, x7x, x5u, x5r, x5q, x5v, x5s, x5p, x5t, x6a, x67, x66, x6b, x68, x65, x69, x5z, x5x, x5y, x5w, x60, x64, x63, x61, x62, xbn, xd2, xbt, xd8, xbo, xd3, xbr, xd6, xbp, xd4, xbq, xd5, xbs, xd7, xct, xe8, xcz, xee, xcu, xe9, xcx, xec, xcv, xea, xcw, xeb, xcy, xed, xbu, xd9, xc0, xdf, xbv, xda, xby, xdd, xbw, xdb, xbx, xdc, xbz, xde, xcf, xdu, xcl, xe0, xcg, xdv, xcj, xdy, xch, xdw, xci, xdx, xck, xdz, xc1, xdg, xc7, xdm, xc2, xdh, xc5, xdk, xc3, xdi, xc4, xdj, xc6, xdl, xc8, xdn, xce, xdt, xc9, xdo, xcc, xdr, xca, xdp, xcb, xdq, xcd, xds, xcm, xe1, xcs, xe7, xcn, xe2, xcq, xe5, xco, xe3, xcp, xe4, xcr, xe6, x8k, x8l, x8m, x8n, x0s, x0t, x0u, x0v, x0w, x0x, x0y, x3y, x4n, x41, x4e, x44, x4j, x47, x4g, x4m, x40, x4d, x43, x4i, x46, x4h, x3z, x42, x4f, x45, x4k, x48, x37, x3c, x38, x39, x3a, x3b, x1n, x1o, x1p, x1q, x1r, x1s, x1t, x1u, x1k, x1l, x1m, List.getElem?_cons_zero, List.getElem?_cons_succ, List.set_cons_zero, List.set_cons_succ, List.replicate, List.cons_append, List.nil_append, List.take_succ_cons, List.take_zero, List.getD_cons_zero, List.getD_cons_succ, List.map_cons, List.map_nil, if_true, if_false, Bool.true_and, Bool.and_true, Bool.false_and, Bool.and_false, Bool.true_or, Bool.or_true, Bool.false_or, Bool.or_false, Bool.not_true, Bool.not_false, reduceIte, Bool.false_eq_true, eq_self, Nat.sub_self, sc, noL, noLAll, Option.map_some, Int.toNat_natCast, Nat.reduceSub, Nat.reduceAdd, decide_true, decide_false, List.length_cons, List.length_nil, Int.reduceLT, Int.reduceLE, Int.reduceAdd, Int.reduceMul, Int.reduceSub, Int.reduceNeg, Int.reduceToNat, Int.reducePow, Int.reduceMod, Int.reduceDiv, Int.reduceEq, Nat.reducePow, Nat.reduceMul, Nat.reduceLT, Nat.reduceLeDiff, Int.ofNat_zero, Int.natCast_zero, Int.natCast_one, Int.ofNat_eq_natCast, Int.natCast_nonneg, beq_self_eq_true, Option.isNone_none, Option.isNone_some, Bool.not_eq_true, List.append_nil, Option.bind_some, List.lookup_cons, List.contains_nil, List.contains_cons, r_In, r_Out, r_Least, r_Most]; rfl)
/-! ### worths -/
theorem getD_of_lt (bs : List Bool) (t : Nat) (h : t < bs.length) : bs.getD t false = bs[t] := by
  rw [List.getD_eq_getElem?_getD, List.getElem?_eq_getElem h]; rfl
theorem r_worth_of (its : List (Nat × Int)) (bs : List Bool) (h : ∀ p ∈ its, p.1 < bs.length) : f_worth_of [.v false (.list (its.map dItem)), .v false (.list (bs.map .bool))] = some (.v true (.int (worthOf its bs)), [.v false (.list (its.map dItem)), .v false (.list (bs.map .bool))]) := by
  unfold f_worth_of b_worth_of
  simp only [x02, x9h, xa1, xa0, x9y, x9z, x9x, x33, x30, x2y, x2z, x32, x31, x52, x50, x4z, x51, x4y, x4w, x4x, xbh, xbm, xbi, xbf, xbg, xbe, xbj, xbl, xbk, xba, xbd, xbb, xbc, x7b, x7c, x7a, x7e, x7d, x78, x79, xb5, xb9, xb6, xb8, xb7, x00, x01, x8j, x8c, x18, x19, x1a, xb3, xb4, x0j, x0g, x0i, x0h, x8d, x8e, x8g, x8f, x82, x83, x84, xat, xar, xas, xal, xak, xap, xao, xan, xam, xeh, x07, x03, x04, x05, x06, x08, x09, x6j, x6c, x6d, x6e, x6f, x6g, x6h, x6i, x2q, x2p, x2r, x2s, xav, xaq, x77, x76, x3m, x3l, xa3, xa4, xab, xac, xad, xae, xaf, xag, xah, xai, xa5, xa6, xa7, xa8, xa9, xaa, xaj, x89, x8a, x8h, x8i, x9m, x9n, x9o, x9p, x9q, x9r, x9s, x6x, x6v, x6w, x20, x1v, x1w, x1y, x1x, x1z, x4v, x4t, x4u, x4q, x4r, x4s, x5b, x1b, x1i, x1h, x1g, x1d, x74, x75, x73, x6z, x6y, x72, x70, x71, x9e, x5k, x5l, x5m, x5n, x8x, x8y, x8z, x90, x91, x92, x93, x2v, x2t, x2u, xei, xej, xek, xel, x8w, x98, x99, xb1, xb2, xb0, xaz, x81, x80, x87, x88, x85, x86, xd1, xd0, x8t, x8s, x6r, x6n, x6p, x6o, x8b, x6k, x6l, x6m, x7z, x1c, x2b, x8v, x9f, x9v, x9w, x9u, x9t, x59, x5a, x8u, x97, x35, x34, x0o, x0a, x0b, x0d, x0c, x0e, x0p, x0q, x0r, x12, x0z, x10, x11, x5o, x5g, x9g, x9a, x9b, x9c, x9d, x0n, x0l, x0m, x36, xef, xeg, x4p, x4o, xax, xay, x53, x55, x54, xaw, xau, x3f, x3e, x3d, x3g, x8p, x8o, x8q, x8r, x7r, x7p, x7q, x7o, x7m, x7k, x7l, x7n, x7i, x7h, x7f, x7g, x14, x16, x17, x15, x13, x1f, x1e, x5j, x5h, x5i, x57, x58, x56, x27, x2a, x29, x28, x9k, x9j, x9l, x9i, x1j, x21, x22, x23, x26, x25, x24, x7v, x7w, x3n, x3h, x3i, x7j, x7s, x7t, x7u, x96, x95, x94, x5e, x5f, x5c, x3p, x3q, x3r, x3s, x3t, x3u, x3v, x3w, x3x, x4a, x4l, x49, x4b, x4c, x3j, x2o, x2j, x2d, x2i, x2m, x2n, x2c, x2h, x2g, x2f, x2e, x2k, x6s, x6u, x6t, x2x, x7y, x2w, x7x, x5u, x5r, x5q, x5v, x5s, x5p, x5t, x6a, x67, x66, x6b, x68, x65, x69, x5z, x5x, x5y, x5w, x60, x64, x63, x61, x62, xbn, xd2, xbt, xd8, xbo, xd3, xbr, xd6, xbp, xd4, xbq, xd5, xbs, xd7, xct, xe8, xcz, xee, xcu, xe9, xcx, xec, xcv, xea, xcw, xeb, xcy, xed, xbu, xd9, xc0, xdf, xbv, xda, xby, xdd, xbw, xdb, xbx, xdc, xbz, xde, xcf, xdu, xcl, xe0, xcg, xdv, xcj, xdy, xch, xdw, xci, xdx, xck, xdz, xc1, xdg, xc7, xdm, xc2, xdh, xc5, xdk, xc3, xdi, xc4, xdj, xc6, xdl, xc8, xdn, xce, xdt, xc9, xdo, xcc, xdr, xca, xdp, xcb, xdq, xcd, xds, xcm, xe1, xcs, xe7, xcn, xe2, xcq, xe5, xco, xe3, xcp, xe4, xcr, xe6, x8k, x8l, x8m, x8n, x0s, x0t, x0u, x0v, x0w, x0x, x0y, x3y, x4n, x41, x4e, x44, x4j, x47, x4g, x4m, x40, x4d, x43, x4i, x46, x4h, x3z, x42, x4f, x45, x4k, x48, x37, x3c, x38, x39, x3a, x3b, x1n, x1o, x1p, x1q, x1r, x1s, x1t, x1u, x1k, x1l, x1m, List.getElem?_cons_zero, List.getElem?_cons_succ, List.set_cons_zero, List.set_cons_succ, List.replicate, List.cons_append, List.nil_append, List.take_succ_cons, List.take_zero, List.getD_cons_zero, List.getD_cons_succ, List.map_cons, List.map_nil, if_true, if_false, Bool.true_and, Bool.and_true, Bool.false_and, Bool.and_false, Bool.true_or, Bool.or_true, Bool.false_or, Bool.or_false, Bool.not_true, Bool.not_false, reduceIte, Bool.false_eq_true, eq_self, Nat.sub_self, sc, noL, noLAll, Option.map_some, Int.toNat_natCast, Nat.reduceSub, Nat.reduceAdd, decide_true, decide_false, List.length_cons, List.length_nil, Int.reduceLT, Int.reduceLE, Int.reduceAdd, Int.reduceMul, Int.reduceSub, Int.reduceNeg, Int.reduceToNat, Int.reducePow, Int.reduceMod, Int.reduceDiv, Int.reduceEq, Nat.reducePow, Nat.reduceMul, Nat.reduceLT, Nat.reduceLeDiff, Int.ofNat_zero, Int.natCast_zero, Int.natCast_one, Int.ofNat_eq_natCast, Int.natCast_nonneg, beq_self_eq_true, Option.isNone_none, Option.isNone_some, Bool.not_eq_true, List.append_nil, Option.bind_some, List.lookup_cons, List.contains_nil, List.contains_cons]
  rw [lcLoop_filter (b := false) (p := fun p : Nat × Int => bs.getD p.1 false) (g := fun p => .int p.2) (h := fun p hp => by
    have hp' := h p hp
    rw [getD_of_lt _ _ hp']
    show lcOne _ _ _ _ _ (dItem p) _ = _
    unfold dItem
    simp only [x02, x9h, xa1, xa0, x9y, x9z, x9x, x33, x30, x2y, x2z, x32, x31, x52, x50, x4z, x51, x4y, x4w, x4x, xbh, xbm, xbi, xbf, xbg, xbe, xbj, xbl, xbk, xba, xbd, xbb, xbc, x7b, x7c, x7a, x7e, x7d, x78, x79, xb5, xb9, xb6, xb8, xb7, x00, x01, x8j, x8c, x18, x19, x1a, xb3, xb4, x0j, x0g, x0i, x0h, x8d, x8e, x8g, x8f, x82, x83, x84, xat, xar, xas, xal, xak, xap, xao, xan, xam, xeh, x07, x03, x04, x05, x06, x08, x09, x6j, x6c, x6d, x6e, x6f, x6g, x6h, x6i, x2q, x2p, x2r, x2s, xav, xaq, x77, x76, x3m, x3l, xa3, xa4, xab, xac, xad, xae, xaf, xag, xah, xai, xa5, xa6, xa7, xa8, xa9, xaa, xaj, x89, x8a, x8h, x8i, x9m, x9n, x9o, x9p, x9q, x9r, x9s, x6x, x6v, x6w, x20, x1v, x1w, x1y, x1x, x1z, x4v, x4t, x4u, x4q, x4r, x4s, x5b, x1b, x1i, x1h, x1g, x1d, x74, x75, x73, x6z, x6y, x72, x70, x71, x9e, x5k, x5l, x5m, x5n, x8x, x8y, x8z, x90, x91, x92, x93, x2v, x2t, x2u, xei, xej, xek, xel, x8w, x98, x99, xb1, xb2, xb0, xaz, x81, x80, x87, x88, x85, x86, xd1, xd0, x8t, x8s, x6r, x6n, x6p, x6o, x8b, x6k, x6l, x6m, x7z, x1c, x2b, x8v, x9f, x9v, x9w, x9u, x9t, x59, x5a, x8u, x97, x35, x34, x0o, x0a, x0b, x0d, x0c, x0e, x0p, x0q, x0r, x12, x0z, x10, x11, x5o, x5g, x9g, x9a, x9b, x9c, x9d, x0n, x0l, x0m, x36, xef, xeg, x4p, x4o, xax, xay, x53, x55, x54, xaw, xau, x3f, x3e, x3d, x3g, x8p, x8o, x8q, x8r, x7r, x7p, x7q, x7o, x7m, x7k, x7l, x7n, x7i, x7h, x7f, x7g, x14, x16, x17, x15, x13, x1f, x1e, x5j, x5h, x5i, x57, x58, x56, x27, x2a, x29, x28, x9k, x9j, x9l, x9i, x1j, x21, x22, x23, x26, x25, x24, x7v, x7w, x3n, x3h, x3i, x7j, x7s, x7t, x7u, x96, x95, x94, x5e, x5f, x5c, x3p, x3q, x3r, x3s, x3t, x3u, x3v, x3w, x3x, x4a, x4l, x49, x4b, x4c, x3j, x2o, x2j, x2d, x2i, x2m, x2n, x2c, x2h, x2g, x2f, x2e, x2k, x6s, x6u, x6t, x2x, x7y, x2w, x7x, x5u, x5r, x5q, x5v, x5s, x5p, x5t, x6a, x67, x66, x6b, x68, x65, x69, x5z, x5x, x5y, x5w, x60, x64, x63, x61, x62, xbn, xd2, xbt, xd8, xbo, xd3, xbr, xd6, xbp, xd4, xbq, xd5, xbs, xd7, xct, xe8, xcz, xee, xcu, xe9, xcx, xec, xcv, xea, xcw, xeb, xcy, xed, xbu, xd9, xc0, xdf, xbv, xda, xby, xdd, xbw, xdb, xbx, xdc, xbz, xde, xcf, xdu, xcl, xe0, xcg, xdv, xcj, xdy, xch, xdw, xci, xdx, xck, xdz, xc1, xdg, xc7, xdm, xc2, xdh, xc5, xdk, xc3, xdi, xc4, xdj, xc6, xdl, xc8, xdn, xce, xdt, xc9, xdo, xcc, xdr, xca, xdp, xcb, xdq, xcd, xds, xcm, xe1, xcs, xe7, xcn, xe2, xcq, xe5, xco, xe3, xcp, xe4, xcr, xe6, x8k, x8l, x8m, x8n, x0s, x0t, x0u, x0v, x0w, x0x, x0y, x3y, x4n, x41, x4e, x44, x4j, x47, x4g, x4m, x40, x4d, x43, x4i, x46, x4h, x3z, x42, x4f, x45, x4k, x48, x37, x3c, x38, x39, x3a, x3b, x1n, x1o, x1p, x1q, x1r, x1s, x1t, x1u, x1k, x1l, x1m, List.getElem?_cons_zero, List.getElem?_cons_succ, List.set_cons_zero, List.set_cons_succ, List.replicate, List.cons_append, List.nil_append, List.take_succ_cons, List.take_zero, List.getD_cons_zero, List.getD_cons_succ, List.map_cons, List.map_nil, if_true, if_false, Bool.true_and, Bool.and_true, Bool.false_and, Bool.and_false, Bool.true_or, Bool.or_true, Bool.false_or, Bool.or_false, Bool.not_true, Bool.not_false, reduceIte, Bool.false_eq_true, eq_self, Nat.sub_self, sc, noL, noLAll, Option.map_some, Int.toNat_natCast, Nat.reduceSub, Nat.reduceAdd, decide_true, decide_false, List.length_cons, List.length_nil, Int.reduceLT, Int.reduceLE, Int.reduceAdd, Int.reduceMul, Int.reduceSub, Int.reduceNeg, Int.reduceToNat, Int.reducePow, Int.reduceMod, Int.reduceDiv, Int.reduceEq, Nat.reducePow, Nat.reduceMul, Nat.reduceLT, Nat.reduceLeDiff, Int.ofNat_zero, Int.natCast_zero, Int.natCast_one, Int.ofNat_eq_natCast, Int.natCast_nonneg, beq_self_eq_true, Option.isNone_none, Option.isNone_some, Bool.not_eq_true, List.append_nil, Option.bind_some, List.lookup_cons, List.contains_nil, List.contains_cons, atI_map _ _ _ hp']
    cases bs[p.1] <;> simp only [x02, x9h, xa1, xa0, x9y, x9z, x9x, x33, x30, x2y, x2z, x32, x31, x52, x50, x4z, x51, x4y, x4w, x4x, xbh, xbm, xbi, xbf, xbg, xbe, xbj, xbl, xbk, xba, xbd, xbb, xbc, x7b, x7c, x7a, x7e, x7d, x78, x79, xb5, xb9, xb6, xb8, xb7, x00, x01, x8j, x8c, x18, x19, x1a, xb3, xb4, x0j, x0g, x0i, x0h, x8d, x8e, x8g, x8f, x82, x83, x84, xat, xar, xas, xal, xak, xap, xao, xan, xam, xeh, x07, x03, x04, x05, x06, x08, x09, x6j, x6c, x6d, x6e, x6f, x6g, x6h, x6i, x2q, x2p, x2r, x2s, xav, xaq, x77, x76, x3m, x3l, xa3, xa4, xab, xac, xad, xae, xaf, xag, xah, xai, xa5, xa6, xa7, xa8, xa9, xaa, xaj, x89, x8a, x8h, x8i, x9m, x9n, x9o, x9p, x9q, x9r, x9s, x6x, x6v, x6w, x20, x1v, x1w, x1y, x1x, x1z, x4v, x4t, x4u, x4q, x4r, x4s, x5b, x1b, x1i, x1h, x1g, x1d, x74, x75, x73, x6z, x6y, x72, x70, x71, x9e, x5k, x5l, x5m, x5n, x8x, x8y, x8z, x90, x91, x92, x93, x2v, x2t, x2u, xei, xej, xek, xel, x8w, x98, x99, xb1, xb2, xb0, xaz, x81, x80, x87, x88, x85, x86, xd1, xd0, x8t, x8s, x6r, x6n, x6p, x6o, x8b, x6k, x6l, x6m, x7z, x1c, x2b, x8v, x9f, x9v, x9w, x9u, x9t, x59, x5a, x8u, x97, x35, x34, x0o, x0a, x0b, x0d, x0c, x0e, x0p, x0q, x0r, x12, x0z, x10, x11, x5o, x5g, x9g, x9a, x9b, x9c, x9d, x0n, x0l, x0m, x36, xef, xeg, x4p, x4o, xax, xay, x53, x55, x54, xaw, xau, x3f, x3e, x3d, x3g, x8p, x8o, x8q, x8r, x7r, x7p, x7q, x7o, x7m, x7k, x7l, x7n, x7i, x7h, x7f, x7g, x14, x16, x17, x15, x13, x1f, x1e, x5j, x5h, x5i, x57, x58, x56, x27, x2a, x29, x28, x9k, x9j, x9l, x9i, x1j, x21, x22, x23, x26, x25, x24, x7v, x7w, x3n, x3h, x3i, x7j, x7s, x7t, x7u, x96, x95, x94, x5e, x5f, x5c, x3p, x3q, x3r, x3s, x3t, x3u, x3v, x3w, x3x, x4a, x4l, x49, x4b, x4c, x3j, x2o, x2j, x2d, x2i, x2m, x2n, x2c, x2h, x2g, x2f, x2e, x2k, x6s, x6u, x6t, x2x, x7y, x2w, x7x, x5u, x5r, x5q, x5v, x5s, x5p, x5t, x6a, x67, x66, x6b, x68, x65, x69, x5z, x5x, x5y, x5w, x60, x64, x63, x61, x62, xbn, xd2, xbt, xd8, xbo, xd3, xbr, xd6, xbp, xd4, xbq, xd5, xbs, xd7, xct, xe8, xcz, xee, xcu, xe9, xcx, xec, xcv, xea, xcw, xeb, xcy, xed, xbu, xd9, xc0, xdf, xbv, xda, xby, xdd, xbw, xdb, xbx, xdc, xbz, xde, xcf, xdu, xcl, xe0, xcg, xdv, xcj, xdy, xch, xdw, xci, xdx, xck, xdz, xc1, xdg, xc7, xdm, xc2, xdh, xc5, xdk, xc3, xdi, xc4, xdj, xc6, xdl, xc8, xdn, xce, xdt, xc9, xdo, xcc, xdr, xca, xdp, xcb, xdq, xcd, xds, xcm, xe1, xcs, xe7, xcn, xe2, xcq, xe5, xco, xe3, xcp, xe4, xcr, xe6, x8k, x8l, x8m, x8n, x0s, x0t, x0u, x0v, x0w, x0x, x0y, x3y, x4n, x41, x4e, x44, x4j, x47, x4g, x4m, x40, x4d, x43, x4i, x46, x4h, x3z, x42, x4f, x45, x4k, x48, x37, x3c, x38, x39, x3a, x3b, x1n, x1o, x1p, x1q, x1r, x1s, x1t, x1u, x1k, x1l, x1m, List.getElem?_cons_zero, List.getElem?_cons_succ, List.set_cons_zero, List.set_cons_succ, List.replicate, List.cons_append, List.nil_append, List.take_succ_cons, List.take_zero, List.getD_cons_zero, List.getD_cons_succ, List.map_cons, List.map_nil, if_true, if_false, Bool.true_and, Bool.and_true, Bool.false_and, Bool.and_false, Bool.true_or, Bool.or_true, Bool.false_or, Bool.or_false, Bool.not_true, Bool.not_false, reduceIte, Bool.false_eq_true, eq_self, Nat.sub_self, sc, noL, noLAll, Option.map_some, Int.toNat_natCast, Nat.reduceSub, Nat.reduceAdd, decide_true, decide_false, List.length_cons, List.length_nil, Int.reduceLT, Int.reduceLE, Int.reduceAdd, Int.reduceMul, Int.reduceSub, Int.reduceNeg, Int.reduceToNat, Int.reducePow, Int.reduceMod, Int.reduceDiv, Int.reduceEq, Nat.reducePow, Nat.reduceMul, Nat.reduceLT, Nat.reduceLeDiff, Int.ofNat_zero, Int.natCast_zero, Int.natCast_one, Int.ofNat_eq_natCast, Int.natCast_nonneg, beq_self_eq_true, Option.isNone_none, Option.isNone_some, Bool.not_eq_true, List.append_nil, Option.bind_some, List.lookup_cons, List.contains_nil, List.contains_cons])]
  simp only [x02, x9h, xa1, xa0, x9y, x9z, x9x, x33, x30, x2y, x2z, x32, x31, x52, x50, x4z, x51, x4y, x4w, x4x, xbh, xbm, xbi, xbf, xbg, xbe, xbj, xbl, xbk, xba, xbd, xbb, xbc, x7b, x7c, x7a, x7e, x7d, x78, x79, xb5, xb9, xb6, xb8, xb7, x00, x01, x8j, x8c, x18, x19, x1a, xb3, xb4, x0j, x0g, x0i, x0h, x8d, x8e, x8g, x8f, x82, x83, x84, xat, xar, xas, xal, xak, xap, xao, xan, xam, xeh, x07, x03, x04, x05, x06, x08, x09, x6j, x6c, x6d, x6e, x6f, x6g, x6h, x6i, x2q, x2p, x2r, x2s, xav, xaq, x77, x76, x3m, x3l, xa3, xa4, xab, xac, xad, xae, xaf, xag, xah, xai, xa5, xa6, xa7, xa8, xa9, xaa, xaj, x89, x8a, x8h, x8i, x9m, x9n, x9o, x9p, x9q, x9r, x9s, x6x, x6v, x6w, x20, x1v, x1w, x1y, x1x, x1z, x4v, x4t, x4u, x4q, x4r, x4s, x5b, x1b, x1i, x1h, x1g, x1d, x74, x75, x73, x6z, x6y, x72, x70, x71, x9e, x5k, x5l, x5m, x5n, x8x, x8y, x8z, x90, x91, x92, x93, x2v, x2t, x2u, xei, xej, xek, xel, x8w, x98, x99, xb1, xb2, xb0, xaz, x81, x80, x87, x88, x85, x86, xd1, xd0, x8t, x8s, x6r, x6n, x6p, x6o, x8b, x6k, x6l, x6m, x7z, x1c, x2b, x8v, x9f, x9v, x9w, x9u, x9t, x59, x5a, x8u, x97, x35, x34, x0o, x0a, x0b, x0d, x0c, x0e, x0p, x0q, x0r, x12, x0z, x10, x11, x5o, x5g, x9g, x9a, x9b, x9c, x9d, x0n, x0l, x0m, x36, xef, xeg, x4p, x4o, xax, xay, x53, x55, x54, xaw, xau, x3f, x3e, x3d, x3g, x8p, x8o, x8q, x8r, x7r, x7p, x7q, x7o, x7m, x7k, x7l, x7n, x7i, x7h, x7f, x7g, x14, x16, x17, x15, x13, x1f, x1e, x5j, x5h, x5i, x57, x58, x56, x27, x2a, x29, x28, x9k, x9j, x9l, x9i, x1j, x21, x22, x23, x26, x25, x24, x7v, x7w, x3n, x3h, x3i, x7j, x7s, x7t, x7u, x96, x95, x94, x5e, x5f, x5c, x3p, x3q, x3r, x3s, x3t, x3u, x3v, x3w, x3x, x4a, x4l, x49, x4b, x4c, x3j, x2o, x2j, x2d, x2i, x2m, x2n, x2c, x2h, x2g, x2f, x2e, x2k, x6s, x6u, x6t, x2x, x7y, x2w, x7x, x5u, x5r, x5q, x5v, x5s, x5p, x5t, x6a, x67, x66, x6b, x68, x65, x69, x5z, x5x, x5y, x5w, x60, x64, x63, x61, x62, xbn, xd2, xbt, xd8, xbo, xd3, xbr, xd6, xbp, xd4, xbq, xd5, xbs, xd7, xct, xe8, xcz, xee, xcu, xe9, xcx, xec, xcv, xea, xcw, xeb, xcy, xed, xbu, xd9, xc0, xdf, xbv, xda, xby, xdd, xbw, xdb, xbx, xdc, xbz, xde, xcf, xdu, xcl, xe0, xcg, xdv, xcj, xdy, xch, xdw, xci, xdx, xck, xdz, xc1, xdg, xc7, xdm, xc2, xdh, xc5, xdk, xc3, xdi, xc4, xdj, xc6, xdl, xc8, xdn, xce, xdt, xc9, xdo, xcc, xdr, xca, xdp, xcb, xdq, xcd, xds, xcm, xe1, xcs, xe7, xcn, xe2, xcq, xe5, xco, xe3, xcp, xe4, xcr, xe6, x8k, x8l, x8m, x8n, x0s, x0t, x0u, x0v, x0w, x0x, x0y, x3y, x4n, x41, x4e, x44, x4j, x47, x4g, x4m, x40, x4d, x43, x4i, x46, x4h, x3z, x42, x4f, x45, x4k, x48, x37, x3c, x38, x39, x3a, x3b, x1n, x1o, x1p, x1q, x1r, x1s, x1t, x1u, x1k, x1l, x1m, List.getElem?_cons_zero, List.getElem?_cons_succ, List.set_cons_zero, List.set_cons_succ, List.replicate, List.cons_append, List.nil_append, List.take_succ_cons, List.take_zero, List.getD_cons_zero, List.getD_cons_succ, List.map_cons, List.map_nil, if_true, if_false, Bool.true_and, Bool.and_true, Bool.false_and, Bool.and_false, Bool.true_or, Bool.or_true, Bool.false_or, Bool.or_false, Bool.not_true, Bool.not_false, reduceIte, Bool.false_eq_true, eq_self, Nat.sub_self, sc, noL, noLAll, Option.map_some, Int.toNat_natCast, Nat.reduceSub, Nat.reduceAdd, decide_true, decide_false, List.length_cons, List.length_nil, Int.reduceLT, Int.reduceLE, Int.reduceAdd, Int.reduceMul, Int.reduceSub, Int.reduceNeg, Int.reduceToNat, Int.reducePow, Int.reduceMod, Int.reduceDiv, Int.reduceEq, Nat.reducePow, Nat.reduceMul, Nat.reduceLT, Nat.reduceLeDiff, Int.ofNat_zero, Int.natCast_zero, Int.natCast_one, Int.ofNat_eq_natCast, Int.natCast_nonneg, beq_self_eq_true, Option.isNone_none, Option.isNone_some, Bool.not_eq_true, List.append_nil, Option.bind_some, List.lookup_cons, List.contains_nil, List.contains_cons, map_snd]
  rw [show ((its.filter fun p => bs.getD p.1 false).map fun p => PyData.int p.2) = ((its.filter fun p => bs.getD p.1 false).map (·.2)).map PyData.int from by rw [List.map_map]; rfl]
  simp only [x02, x9h, xa1, xa0, x9y, x9z, x9x, x33, x30, x2y, x2z, x32, x31, x52, x50, x4z, x51, x4y, x4w, x4x, xbh, xbm, xbi, xbf, xbg, xbe, xbj, xbl, xbk, xba, xbd, xbb, xbc, x7b, x7c, x7a, x7e, x7d, x78, x79, xb5, xb9, xb6, xb8, xb7, x00, x01, x8j, x8c, x18, x19, x1a, xb3, xb4, x0j, x0g, x0i, x0h, x8d, x8e, x8g, x8f, x82, x83, x84, xat, xar, xas, xal, xak, xap, xao, xan, xam, xeh, x07, x03, x04, x05, x06, x08, x09, x6j, x6c, x6d, x6e, x6f, x6g, x6h, x6i, x2q, x2p, x2r, x2s, xav, xaq, x77, x76, x3m, x3l, xa3, xa4, xab, xac, xad, xae, xaf, xag, xah, xai, xa5, xa6, xa7, xa8, xa9, xaa, xaj, x89, x8a, x8h, x8i, x9m, x9n, x9o, x9p, x9q, x9r, x9s, x6x, x6v, x6w, x20, x1v, x1w, x1y, x1x, x1z, x4v, x4t, x4u, x4q, x4r, x4s, x5b, x1b, x1i, x1h, x1g, x1d, x74, x75, x73, x6z, x6y, x72, x70, x71, x9e, x5k, x5l, x5m, x5n, x8x, x8y, x8z, x90, x91, x92, x93, x2v, x2t, x2u, xei, xej, xek, xel, x8w, x98, x99, xb1, xb2, xb0, xaz, x81, x80, x87, x88, x85, x86, xd1, xd0, x8t, x8s, x6r, x6n, x6p, x6o, x8b, x6k, x6l, x6m, x7z, x1c, x2b, x8v, x9f, x9v, x9w, x9u, x9t, x59, x5a, x8u, x97, x35, x34, x0o, x0a, x0b, x0d, x0c, x0e, x0p, x0q, x0r, x12, x0z, x10, x11, x5o, x5g, x9g, x9a, x9b, x9c, x9d, x0n, x0l, x0m, x36, xef, xeg, x4p, x4o, xax, xay, x53, x55, x54, xaw, xau, x3f, x3e, x3d, x3g, x8p, x8o, x8q, x8r, x7r, x7p, x7q, x7o, x7m, x7k, x7l, x7n, x7i, x7h, x7f, x7g, x14, x16, x17, x15, x13, x1f, x1e, x5j, x5h, x5i, x57, x58, x56, x27, x2a, x29, x28, x9k, x9j, x9l, x9i, x1j, x21, x22, x23, x26, x25, x24, x7v, x7w, x3n, x3h, x3i, x7j, x7s, x7t, x7u, x96, x95, x94, x5e, x5f, x5c, x3p, x3q, x3r, x3s, x3t, x3u, x3v, x3w, x3x, x4a, x4l, x49, x4b, x4c, x3j, x2o, x2j, x2d, x2i, x2m, x2n, x2c, x2h, x2g, x2f, x2e, x2k, x6s, x6u, x6t, x2x, x7y, x2w, x7x, x5u, x5r, x5q, x5v, x5s, x5p, x5t, x6a, x67, x66, x6b, x68, x65, x69, x5z, x5x, x5y, x5w, x60, x64, x63, x61, x62, xbn, xd2, xbt, xd8, xbo, xd3, xbr, xd6, xbp, xd4, xbq, xd5, xbs, xd7, xct, xe8, xcz, xee, xcu, xe9, xcx, xec, xcv, xea, xcw, xeb, xcy, xed, xbu, xd9, xc0, xdf, xbv, xda, xby, xdd, xbw, xdb, xbx, xdc, xbz, xde, xcf, xdu, xcl, xe0, xcg, xdv, xcj, xdy, xch, xdw, xci, xdx, xck, xdz, xc1, xdg, xc7, xdm, xc2, xdh, xc5, xdk, xc3, xdi, xc4, xdj, xc6, xdl, xc8, xdn, xce, xdt, xc9, xdo, xcc, xdr, xca, xdp, xcb, xdq, xcd, xds, xcm, xe1, xcs, xe7, xcn, xe2, xcq, xe5, xco, xe3, xcp, xe4, xcr, xe6, x8k, x8l, x8m, x8n, x0s, x0t, x0u, x0v, x0w, x0x, x0y, x3y, x4n, x41, x4e, x44, x4j, x47, x4g, x4m, x40, x4d, x43, x4i, x46, x4h, x3z, x42, x4f, x45, x4k, x48, x37, x3c, x38, x39, x3a, x3b, x1n, x1o, x1p, x1q, x1r, x1s, x1t, x1u, x1k, x1l, x1m, List.getElem?_cons_zero, List.getElem?_cons_succ, List.set_cons_zero, List.set_cons_succ, List.replicate, List.cons_append, List.nil_append, List.take_succ_cons, List.take_zero, List.getD_cons_zero, List.getD_cons_succ, List.map_cons, List.map_nil, if_true, if_false, Bool.true_and, Bool.and_true, Bool.false_and, Bool.and_false, Bool.true_or, Bool.or_true, Bool.false_or, Bool.or_false, Bool.not_true, Bool.not_false, reduceIte, Bool.false_eq_true, eq_self, Nat.sub_self, sc, noL, noLAll, Option.map_some, Int.toNat_natCast, Nat.reduceSub, Nat.reduceAdd, decide_true, decide_false, List.length_cons, List.length_nil, Int.reduceLT, Int.reduceLE, Int.reduceAdd, Int.reduceMul, Int.reduceSub, Int.reduceNeg, Int.reduceToNat, Int.reducePow, Int.reduceMod, Int.reduceDiv, Int.reduceEq, Nat.reducePow, Nat.reduceMul, Nat.reduceLT, Nat.reduceLeDiff, Int.ofNat_zero, Int.natCast_zero, Int.natCast_one, Int.ofNat_eq_natCast, Int.natCast_nonneg, beq_self_eq_true, Option.isNone_none, Option.isNone_some, Bool.not_eq_true, List.append_nil, Option.bind_some, List.lookup_cons, List.contains_nil, List.contains_cons, xa2]
  rfl
theorem eq_items (a b : List (Nat × Int)) : dEq (.list (a.map dItem)) (.list (b.map dItem)) = some (.bool (decide (a = b))) := eq_en a b (by simp [En.ok]) (by simp [En.ok]) (by decide)
theorem ne_items (a b : List (Nat × Int)) : dNe (.list (a.map dItem)) (.list (b.map dItem)) = some (.bool (!decide (a = b))) := ne_en a b (by simp [En.ok]) (by simp [En.ok]) (by decide)
theorem eq_marks2 (a b c d : List Bool) : dEq (.list [.list (a.map .bool), .list (b.map .bool)]) (.list [.list (c.map .bool), .list (d.map .bool)]) = some (.bool (decide ([a, b] = [c, d]))) := eq_en [a, b] [c, d] (by simp [En.ok]) (by simp [En.ok]) (by decide)
/-! ### the methods -/
theorem nometh (p : Part) (m : Str) (h1 : (m == "thing") = false) (h2 : (m == "bound") = false) (h3 : (m == "weighed") = false) : ((obFs p).lookup m).isNone = true := by
  cases p <;> (unfold obFs; simp only [List.lookup_cons, h1, h2, h3, List.lookup_nil]; rfl)
theorem noM_holds (p : Part) : ((obFs p).lookup ("holds" : Str)).isNone = true := nometh p _ x41 x40 x42
theorem noM_sure (p : Part) : ((obFs p).lookup ("sure" : Str)).isNone = true := nometh p _ x4e x4d x4f
theorem noM_lost (p : Part) : ((obFs p).lookup ("lost" : Str)).isNone = true := nometh p _ x44 x43 x45
noncomputable def m_holds : Part → FD
  | .inn _ => f_In_holds
  | .out _ => f_Out_holds
  | .least _ _ => f_Least_holds
  | .most _ _ => f_Most_holds
noncomputable def m_sure : Part → FD
  | .inn _ => f_In_sure
  | .out _ => f_Out_sure
  | .least _ _ => f_Least_sure
  | .most _ _ => f_Most_sure
noncomputable def m_lost : Part → FD
  | .inn _ => f_In_lost
  | .out _ => f_Out_lost
  | .least _ _ => f_Least_lost
  | .most _ _ => f_Most_lost
theorem tabM_holds (p : Part) : tab_holds.lookup (obC p) = some (m_holds p) := by cases p <;> kernel_rfl
theorem tabM_sure (p : Part) : tab_sure.lookup (obC p) = some (m_sure p) := by cases p <;> kernel_rfl
theorem tabM_lost (p : Part) : tab_lost.lookup (obC p) = some (m_lost p) := by cases p <;> kernel_rfl
abbrev dB (bs : List Bool) : D := .list (bs.map .bool)
abbrev dS (s : Sheet) : D := .list (s.map dOB)
theorem its_lt {k : Int} {its : List (Nat × Int)} {n : Nat} (h : (Part.least k its).ok n) : ∀ p ∈ its, p.1 < n := fun p hp => h p.1 (List.mem_map.mpr ⟨p, hp, rfl⟩)
theorem its_lt' {k : Int} {its : List (Nat × Int)} {n : Nat} (h : (Part.most k its).ok n) : ∀ p ∈ its, p.1 < n := fun p hp => h p.1 (List.mem_map.mpr ⟨p, hp, rfl⟩)
/-- the flag of what a method gives -/
def flI : Part → Bool
  | .inn _ => false
  | _ => true
theorem r_holds (p : Part) (r w : List Bool) (h : p.ok r.length) (h2 : w.length = r.length) : m_holds p [.ob false (obC p) (obFs p), .v false (dB r), .v false (dB w)] = some (.v (flI p) (.bool (p.holds r w)), [.ob false (obC p) (obFs p), .v false (dB r), .v false (dB w)]) := by
  cases p with
  | inn t =>
    have ht : t < r.length := h t (List.mem_cons_self ..)
    show f_In_holds _ = _
    unfold f_In_holds b_In_holds obC obFs Part.holds flI
    simp only [x02, x9h, xa1, xa0, x9y, x9z, x9x, x33, x30, x2y, x2z, x32, x31, x52, x50, x4z, x51, x4y, x4w, x4x, xbh, xbm, xbi, xbf, xbg, xbe, xbj, xbl, xbk, xba, xbd, xbb, xbc, x7b, x7c, x7a, x7e, x7d, x78, x79, xb5, xb9, xb6, xb8, xb7, x00, x01, x8j, x8c, x18, x19, x1a, xb3, xb4, x0j, x0g, x0i, x0h, x8d, x8e, x8g, x8f, x82, x83, x84, xat, xar, xas, xal, xak, xap, xao, xan, xam, xeh, x07, x03, x04, x05, x06, x08, x09, x6j, x6c, x6d, x6e, x6f, x6g, x6h, x6i, x2q, x2p, x2r, x2s, xav, xaq, x77, x76, x3m, x3l, xa3, xa4, xab, xac, xad, xae, xaf, xag, xah, xai, xa5, xa6, xa7, xa8, xa9, xaa, xaj, x89, x8a, x8h, x8i, x9m, x9n, x9o, x9p, x9q, x9r, x9s, x6x, x6v, x6w, x20, x1v, x1w, x1y, x1x, x1z, x4v, x4t, x4u, x4q, x4r, x4s, x5b, x1b, x1i, x1h, x1g, x1d, x74, x75, x73, x6z, x6y, x72, x70, x71, x9e, x5k, x5l, x5m, x5n, x8x, x8y, x8z, x90, x91, x92, x93, x2v, x2t, x2u, xei, xej, xek, xel, x8w, x98, x99, xb1, xb2, xb0, xaz, x81, x80, x87, x88, x85, x86, xd1, xd0, x8t, x8s, x6r, x6n, x6p, x6o, x8b, x6k, x6l, x6m, x7z, x1c, x2b, x8v, x9f, x9v, x9w, x9u, x9t, x59, x5a, x8u, x97, x35, x34, x0o, x0a, x0b, x0d, x0c, x0e, x0p, x0q, x0r, x12, x0z, x10, x11, x5o, x5g, x9g, x9a, x9b, x9c, x9d, x0n, x0l, x0m, x36, xef, xeg, x4p, x4o, xax, xay, x53, x55, x54, xaw, xau, x3f, x3e, x3d, x3g, x8p, x8o, x8q, x8r, x7r, x7p, x7q, x7o, x7m, x7k, x7l, x7n, x7i, x7h, x7f, x7g, x14, x16, x17, x15, x13, x1f, x1e, x5j, x5h, x5i, x57, x58, x56, x27, x2a, x29, x28, x9k, x9j, x9l, x9i, x1j, x21, x22, x23, x26, x25, x24, x7v, x7w, x3n, x3h, x3i, x7j, x7s, x7t, x7u, x96, x95, x94, x5e, x5f, x5c, x3p, x3q, x3r, x3s, x3t, x3u, x3v, x3w, x3x, x4a, x4l, x49, x4b, x4c, x3j, x2o, x2j, x2d, x2i, x2m, x2n, x2c, x2h, x2g, x2f, x2e, x2k, x6s, x6u, x6t, x2x, x7y, x2w, x7x, x5u, x5r, x5q, x5v, x5s, x5p, x5t, x6a, x67, x66, x6b, x68, x65, x69, x5z, x5x, x5y, x5w, x60, x64, x63, x61, x62, xbn, xd2, xbt, xd8, xbo, xd3, xbr, xd6, xbp, xd4, xbq, xd5, xbs, xd7, xct, xe8, xcz, xee, xcu, xe9, xcx, xec, xcv, xea, xcw, xeb, xcy, xed, xbu, xd9, xc0, xdf, xbv, xda, xby, xdd, xbw, xdb, xbx, xdc, xbz, xde, xcf, xdu, xcl, xe0, xcg, xdv, xcj, xdy, xch, xdw, xci, xdx, xck, xdz, xc1, xdg, xc7, xdm, xc2, xdh, xc5, xdk, xc3, xdi, xc4, xdj, xc6, xdl, xc8, xdn, xce, xdt, xc9, xdo, xcc, xdr, xca, xdp, xcb, xdq, xcd, xds, xcm, xe1, xcs, xe7, xcn, xe2, xcq, xe5, xco, xe3, xcp, xe4, xcr, xe6, x8k, x8l, x8m, x8n, x0s, x0t, x0u, x0v, x0w, x0x, x0y, x3y, x4n, x41, x4e, x44, x4j, x47, x4g, x4m, x40, x4d, x43, x4i, x46, x4h, x3z, x42, x4f, x45, x4k, x48, x37, x3c, x38, x39, x3a, x3b, x1n, x1o, x1p, x1q, x1r, x1s, x1t, x1u, x1k, x1l, x1m, List.getElem?_cons_zero, List.getElem?_cons_succ, List.set_cons_zero, List.set_cons_succ, List.replicate, List.cons_append, List.nil_append, List.take_succ_cons, List.take_zero, List.getD_cons_zero, List.getD_cons_succ, List.map_cons, List.map_nil, if_true, if_false, Bool.true_and, Bool.and_true, Bool.false_and, Bool.and_false, Bool.true_or, Bool.or_true, Bool.false_or, Bool.or_false, Bool.not_true, Bool.not_false, reduceIte, Bool.false_eq_true, eq_self, Nat.sub_self, sc, noL, noLAll, Option.map_some, Int.toNat_natCast, Nat.reduceSub, Nat.reduceAdd, decide_true, decide_false, List.length_cons, List.length_nil, Int.reduceLT, Int.reduceLE, Int.reduceAdd, Int.reduceMul, Int.reduceSub, Int.reduceNeg, Int.reduceToNat, Int.reducePow, Int.reduceMod, Int.reduceDiv, Int.reduceEq, Nat.reducePow, Nat.reduceMul, Nat.reduceLT, Nat.reduceLeDiff, Int.ofNat_zero, Int.natCast_zero, Int.natCast_one, Int.ofNat_eq_natCast, Int.natCast_nonneg, beq_self_eq_true, Option.isNone_none, Option.isNone_some, Bool.not_eq_true, List.append_nil, Option.bind_some, List.lookup_cons, List.contains_nil, List.contains_cons, atI_map _ _ _ ht, getD_of_lt _ _ ht]
  | out t =>
    have ht : t < w.length := by rw [h2]; exact h t (List.mem_cons_self ..)
    show f_Out_holds _ = _
    unfold f_Out_holds b_Out_holds obC obFs Part.holds flI
    simp only [x02, x9h, xa1, xa0, x9y, x9z, x9x, x33, x30, x2y, x2z, x32, x31, x52, x50, x4z, x51, x4y, x4w, x4x, xbh, xbm, xbi, xbf, xbg, xbe, xbj, xbl, xbk, xba, xbd, xbb, xbc, x7b, x7c, x7a, x7e, x7d, x78, x79, xb5, xb9, xb6, xb8, xb7, x00, x01, x8j, x8c, x18, x19, x1a, xb3, xb4, x0j, x0g, x0i, x0h, x8d, x8e, x8g, x8f, x82, x83, x84, xat, xar, xas, xal, xak, xap, xao, xan, xam, xeh, x07, x03, x04, x05, x06, x08, x09, x6j, x6c, x6d, x6e, x6f, x6g, x6h, x6i, x2q, x2p, x2r, x2s, xav, xaq, x77, x76, x3m, x3l, xa3, xa4, xab, xac, xad, xae, xaf, xag, xah, xai, xa5, xa6, xa7, xa8, xa9, xaa, xaj, x89, x8a, x8h, x8i, x9m, x9n, x9o, x9p, x9q, x9r, x9s, x6x, x6v, x6w, x20, x1v, x1w, x1y, x1x, x1z, x4v, x4t, x4u, x4q, x4r, x4s, x5b, x1b, x1i, x1h, x1g, x1d, x74, x75, x73, x6z, x6y, x72, x70, x71, x9e, x5k, x5l, x5m, x5n, x8x, x8y, x8z, x90, x91, x92, x93, x2v, x2t, x2u, xei, xej, xek, xel, x8w, x98, x99, xb1, xb2, xb0, xaz, x81, x80, x87, x88, x85, x86, xd1, xd0, x8t, x8s, x6r, x6n, x6p, x6o, x8b, x6k, x6l, x6m, x7z, x1c, x2b, x8v, x9f, x9v, x9w, x9u, x9t, x59, x5a, x8u, x97, x35, x34, x0o, x0a, x0b, x0d, x0c, x0e, x0p, x0q, x0r, x12, x0z, x10, x11, x5o, x5g, x9g, x9a, x9b, x9c, x9d, x0n, x0l, x0m, x36, xef, xeg, x4p, x4o, xax, xay, x53, x55, x54, xaw, xau, x3f, x3e, x3d, x3g, x8p, x8o, x8q, x8r, x7r, x7p, x7q, x7o, x7m, x7k, x7l, x7n, x7i, x7h, x7f, x7g, x14, x16, x17, x15, x13, x1f, x1e, x5j, x5h, x5i, x57, x58, x56, x27, x2a, x29, x28, x9k, x9j, x9l, x9i, x1j, x21, x22, x23, x26, x25, x24, x7v, x7w, x3n, x3h, x3i, x7j, x7s, x7t, x7u, x96, x95, x94, x5e, x5f, x5c, x3p, x3q, x3r, x3s, x3t, x3u, x3v, x3w, x3x, x4a, x4l, x49, x4b, x4c, x3j, x2o, x2j, x2d, x2i, x2m, x2n, x2c, x2h, x2g, x2f, x2e, x2k, x6s, x6u, x6t, x2x, x7y, x2w, x7x, x5u, x5r, x5q, x5v, x5s, x5p, x5t, x6a, x67, x66, x6b, x68, x65, x69, x5z, x5x, x5y, x5w, x60, x64, x63, x61, x62, xbn, xd2, xbt, xd8, xbo, xd3, xbr, xd6, xbp, xd4, xbq, xd5, xbs, xd7, xct, xe8, xcz, xee, xcu, xe9, xcx, xec, xcv, xea, xcw, xeb, xcy, xed, xbu, xd9, xc0, xdf, xbv, xda, xby, xdd, xbw, xdb, xbx, xdc, xbz, xde, xcf, xdu, xcl, xe0, xcg, xdv, xcj, xdy, xch, xdw, xci, xdx, xck, xdz, xc1, xdg, xc7, xdm, xc2, xdh, xc5, xdk, xc3, xdi, xc4, xdj, xc6, xdl, xc8, xdn, xce, xdt, xc9, xdo, xcc, xdr, xca, xdp, xcb, xdq, xcd, xds, xcm, xe1, xcs, xe7, xcn, xe2, xcq, xe5, xco, xe3, xcp, xe4, xcr, xe6, x8k, x8l, x8m, x8n, x0s, x0t, x0u, x0v, x0w, x0x, x0y, x3y, x4n, x41, x4e, x44, x4j, x47, x4g, x4m, x40, x4d, x43, x4i, x46, x4h, x3z, x42, x4f, x45, x4k, x48, x37, x3c, x38, x39, x3a, x3b, x1n, x1o, x1p, x1q, x1r, x1s, x1t, x1u, x1k, x1l, x1m, List.getElem?_cons_zero, List.getElem?_cons_succ, List.set_cons_zero, List.set_cons_succ, List.replicate, List.cons_append, List.nil_append, List.take_succ_cons, List.take_zero, List.getD_cons_zero, List.getD_cons_succ, List.map_cons, List.map_nil, if_true, if_false, Bool.true_and, Bool.and_true, Bool.false_and, Bool.and_false, Bool.true_or, Bool.or_true, Bool.false_or, Bool.or_false, Bool.not_true, Bool.not_false, reduceIte, Bool.false_eq_true, eq_self, Nat.sub_self, sc, noL, noLAll, Option.map_some, Int.toNat_natCast, Nat.reduceSub, Nat.reduceAdd, decide_true, decide_false, List.length_cons, List.length_nil, Int.reduceLT, Int.reduceLE, Int.reduceAdd, Int.reduceMul, Int.reduceSub, Int.reduceNeg, Int.reduceToNat, Int.reducePow, Int.reduceMod, Int.reduceDiv, Int.reduceEq, Nat.reducePow, Nat.reduceMul, Nat.reduceLT, Nat.reduceLeDiff, Int.ofNat_zero, Int.natCast_zero, Int.natCast_one, Int.ofNat_eq_natCast, Int.natCast_nonneg, beq_self_eq_true, Option.isNone_none, Option.isNone_some, Bool.not_eq_true, List.append_nil, Option.bind_some, List.lookup_cons, List.contains_nil, List.contains_cons, atI_map _ _ _ ht, getD_of_lt _ _ ht]
  | least k its =>
    show f_Least_holds _ = _
    unfold f_Least_holds b_Least_holds obC obFs Part.holds flI
    simp only [x02, x9h, xa1, xa0, x9y, x9z, x9x, x33, x30, x2y, x2z, x32, x31, x52, x50, x4z, x51, x4y, x4w, x4x, xbh, xbm, xbi, xbf, xbg, xbe, xbj, xbl, xbk, xba, xbd, xbb, xbc, x7b, x7c, x7a, x7e, x7d, x78, x79, xb5, xb9, xb6, xb8, xb7, x00, x01, x8j, x8c, x18, x19, x1a, xb3, xb4, x0j, x0g, x0i, x0h, x8d, x8e, x8g, x8f, x82, x83, x84, xat, xar, xas, xal, xak, xap, xao, xan, xam, xeh, x07, x03, x04, x05, x06, x08, x09, x6j, x6c, x6d, x6e, x6f, x6g, x6h, x6i, x2q, x2p, x2r, x2s, xav, xaq, x77, x76, x3m, x3l, xa3, xa4, xab, xac, xad, xae, xaf, xag, xah, xai, xa5, xa6, xa7, xa8, xa9, xaa, xaj, x89, x8a, x8h, x8i, x9m, x9n, x9o, x9p, x9q, x9r, x9s, x6x, x6v, x6w, x20, x1v, x1w, x1y, x1x, x1z, x4v, x4t, x4u, x4q, x4r, x4s, x5b, x1b, x1i, x1h, x1g, x1d, x74, x75, x73, x6z, x6y, x72, x70, x71, x9e, x5k, x5l, x5m, x5n, x8x, x8y, x8z, x90, x91, x92, x93, x2v, x2t, x2u, xei, xej, xek, xel, x8w, x98, x99, xb1, xb2, xb0, xaz, x81, x80, x87, x88, x85, x86, xd1, xd0, x8t, x8s, x6r, x6n, x6p, x6o, x8b, x6k, x6l, x6m, x7z, x1c, x2b, x8v, x9f, x9v, x9w, x9u, x9t, x59, x5a, x8u, x97, x35, x34, x0o, x0a, x0b, x0d, x0c, x0e, x0p, x0q, x0r, x12, x0z, x10, x11, x5o, x5g, x9g, x9a, x9b, x9c, x9d, x0n, x0l, x0m, x36, xef, xeg, x4p, x4o, xax, xay, x53, x55, x54, xaw, xau, x3f, x3e, x3d, x3g, x8p, x8o, x8q, x8r, x7r, x7p, x7q, x7o, x7m, x7k, x7l, x7n, x7i, x7h, x7f, x7g, x14, x16, x17, x15, x13, x1f, x1e, x5j, x5h, x5i, x57, x58, x56, x27, x2a, x29, x28, x9k, x9j, x9l, x9i, x1j, x21, x22, x23, x26, x25, x24, x7v, x7w, x3n, x3h, x3i, x7j, x7s, x7t, x7u, x96, x95, x94, x5e, x5f, x5c, x3p, x3q, x3r, x3s, x3t, x3u, x3v, x3w, x3x, x4a, x4l, x49, x4b, x4c, x3j, x2o, x2j, x2d, x2i, x2m, x2n, x2c, x2h, x2g, x2f, x2e, x2k, x6s, x6u, x6t, x2x, x7y, x2w, x7x, x5u, x5r, x5q, x5v, x5s, x5p, x5t, x6a, x67, x66, x6b, x68, x65, x69, x5z, x5x, x5y, x5w, x60, x64, x63, x61, x62, xbn, xd2, xbt, xd8, xbo, xd3, xbr, xd6, xbp, xd4, xbq, xd5, xbs, xd7, xct, xe8, xcz, xee, xcu, xe9, xcx, xec, xcv, xea, xcw, xeb, xcy, xed, xbu, xd9, xc0, xdf, xbv, xda, xby, xdd, xbw, xdb, xbx, xdc, xbz, xde, xcf, xdu, xcl, xe0, xcg, xdv, xcj, xdy, xch, xdw, xci, xdx, xck, xdz, xc1, xdg, xc7, xdm, xc2, xdh, xc5, xdk, xc3, xdi, xc4, xdj, xc6, xdl, xc8, xdn, xce, xdt, xc9, xdo, xcc, xdr, xca, xdp, xcb, xdq, xcd, xds, xcm, xe1, xcs, xe7, xcn, xe2, xcq, xe5, xco, xe3, xcp, xe4, xcr, xe6, x8k, x8l, x8m, x8n, x0s, x0t, x0u, x0v, x0w, x0x, x0y, x3y, x4n, x41, x4e, x44, x4j, x47, x4g, x4m, x40, x4d, x43, x4i, x46, x4h, x3z, x42, x4f, x45, x4k, x48, x37, x3c, x38, x39, x3a, x3b, x1n, x1o, x1p, x1q, x1r, x1s, x1t, x1u, x1k, x1l, x1m, List.getElem?_cons_zero, List.getElem?_cons_succ, List.set_cons_zero, List.set_cons_succ, List.replicate, List.cons_append, List.nil_append, List.take_succ_cons, List.take_zero, List.getD_cons_zero, List.getD_cons_succ, List.map_cons, List.map_nil, if_true, if_false, Bool.true_and, Bool.and_true, Bool.false_and, Bool.and_false, Bool.true_or, Bool.or_true, Bool.false_or, Bool.or_false, Bool.not_true, Bool.not_false, reduceIte, Bool.false_eq_true, eq_self, Nat.sub_self, sc, noL, noLAll, Option.map_some, Int.toNat_natCast, Nat.reduceSub, Nat.reduceAdd, decide_true, decide_false, List.length_cons, List.length_nil, Int.reduceLT, Int.reduceLE, Int.reduceAdd, Int.reduceMul, Int.reduceSub, Int.reduceNeg, Int.reduceToNat, Int.reducePow, Int.reduceMod, Int.reduceDiv, Int.reduceEq, Nat.reducePow, Nat.reduceMul, Nat.reduceLT, Nat.reduceLeDiff, Int.ofNat_zero, Int.natCast_zero, Int.natCast_one, Int.ofNat_eq_natCast, Int.natCast_nonneg, beq_self_eq_true, Option.isNone_none, Option.isNone_some, Bool.not_eq_true, List.append_nil, Option.bind_some, List.lookup_cons, List.contains_nil, List.contains_cons, r_worth_of its r (its_lt h)]
  | most k its =>
    show f_Most_holds _ = _
    unfold f_Most_holds b_Most_holds obC obFs Part.holds flI
    simp only [x02, x9h, xa1, xa0, x9y, x9z, x9x, x33, x30, x2y, x2z, x32, x31, x52, x50, x4z, x51, x4y, x4w, x4x, xbh, xbm, xbi, xbf, xbg, xbe, xbj, xbl, xbk, xba, xbd, xbb, xbc, x7b, x7c, x7a, x7e, x7d, x78, x79, xb5, xb9, xb6, xb8, xb7, x00, x01, x8j, x8c, x18, x19, x1a, xb3, xb4, x0j, x0g, x0i, x0h, x8d, x8e, x8g, x8f, x82, x83, x84, xat, xar, xas, xal, xak, xap, xao, xan, xam, xeh, x07, x03, x04, x05, x06, x08, x09, x6j, x6c, x6d, x6e, x6f, x6g, x6h, x6i, x2q, x2p, x2r, x2s, xav, xaq, x77, x76, x3m, x3l, xa3, xa4, xab, xac, xad, xae, xaf, xag, xah, xai, xa5, xa6, xa7, xa8, xa9, xaa, xaj, x89, x8a, x8h, x8i, x9m, x9n, x9o, x9p, x9q, x9r, x9s, x6x, x6v, x6w, x20, x1v, x1w, x1y, x1x, x1z, x4v, x4t, x4u, x4q, x4r, x4s, x5b, x1b, x1i, x1h, x1g, x1d, x74, x75, x73, x6z, x6y, x72, x70, x71, x9e, x5k, x5l, x5m, x5n, x8x, x8y, x8z, x90, x91, x92, x93, x2v, x2t, x2u, xei, xej, xek, xel, x8w, x98, x99, xb1, xb2, xb0, xaz, x81, x80, x87, x88, x85, x86, xd1, xd0, x8t, x8s, x6r, x6n, x6p, x6o, x8b, x6k, x6l, x6m, x7z, x1c, x2b, x8v, x9f, x9v, x9w, x9u, x9t, x59, x5a, x8u, x97, x35, x34, x0o, x0a, x0b, x0d, x0c, x0e, x0p, x0q, x0r, x12, x0z, x10, x11, x5o, x5g, x9g, x9a, x9b, x9c, x9d, x0n, x0l, x0m, x36, xef, xeg, x4p, x4o, xax, xay, x53, x55, x54, xaw, xau, x3f, x3e, x3d, x3g, x8p, x8o, x8q, x8r, x7r, x7p, x7q, x7o, x7m, x7k, x7l, x7n, x7i, x7h, x7f, x7g, x14, x16, x17, x15, x13, x1f, x1e, x5j, x5h, x5i, x57, x58, x56, x27, x2a, x29, x28, x9k, x9j, x9l, x9i, x1j, x21, x22, x23, x26, x25, x24, x7v, x7w, x3n, x3h, x3i, x7j, x7s, x7t, x7u, x96, x95, x94, x5e, x5f, x5c, x3p, x3q, x3r, x3s, x3t, x3u, x3v, x3w, x3x, x4a, x4l, x49, x4b, x4c, x3j, x2o, x2j, x2d, x2i, x2m, x2n, x2c, x2h, x2g, x2f, x2e, x2k, x6s, x6u, x6t, x2x, x7y, x2w, x7x, x5u, x5r, x5q, x5v, x5s, x5p, x5t, x6a, x67, x66, x6b, x68, x65, x69, x5z, x5x, x5y, x5w, x60, x64, x63, x61, x62, xbn, xd2, xbt, xd8, xbo, xd3, xbr, xd6, xbp, xd4, xbq, xd5, xbs, xd7, xct, xe8, xcz, xee, xcu, xe9, xcx, xec, xcv, xea, xcw, xeb, xcy, xed, xbu, xd9, xc0, xdf, xbv, xda, xby, xdd, xbw, xdb, xbx, xdc, xbz, xde, xcf, xdu, xcl, xe0, xcg, xdv, xcj, xdy, xch, xdw, xci, xdx, xck, xdz, xc1, xdg, xc7, xdm, xc2, xdh, xc5, xdk, xc3, xdi, xc4, xdj, xc6, xdl, xc8, xdn, xce, xdt, xc9, xdo, xcc, xdr, xca, xdp, xcb, xdq, xcd, xds, xcm, xe1, xcs, xe7, xcn, xe2, xcq, xe5, xco, xe3, xcp, xe4, xcr, xe6, x8k, x8l, x8m, x8n, x0s, x0t, x0u, x0v, x0w, x0x, x0y, x3y, x4n, x41, x4e, x44, x4j, x47, x4g, x4m, x40, x4d, x43, x4i, x46, x4h, x3z, x42, x4f, x45, x4k, x48, x37, x3c, x38, x39, x3a, x3b, x1n, x1o, x1p, x1q, x1r, x1s, x1t, x1u, x1k, x1l, x1m, List.getElem?_cons_zero, List.getElem?_cons_succ, List.set_cons_zero, List.set_cons_succ, List.replicate, List.cons_append, List.nil_append, List.take_succ_cons, List.take_zero, List.getD_cons_zero, List.getD_cons_succ, List.map_cons, List.map_nil, if_true, if_false, Bool.true_and, Bool.and_true, Bool.false_and, Bool.and_false, Bool.true_or, Bool.or_true, Bool.false_or, Bool.or_false, Bool.not_true, Bool.not_false, reduceIte, Bool.false_eq_true, eq_self, Nat.sub_self, sc, noL, noLAll, Option.map_some, Int.toNat_natCast, Nat.reduceSub, Nat.reduceAdd, decide_true, decide_false, List.length_cons, List.length_nil, Int.reduceLT, Int.reduceLE, Int.reduceAdd, Int.reduceMul, Int.reduceSub, Int.reduceNeg, Int.reduceToNat, Int.reducePow, Int.reduceMod, Int.reduceDiv, Int.reduceEq, Nat.reducePow, Nat.reduceMul, Nat.reduceLT, Nat.reduceLeDiff, Int.ofNat_zero, Int.natCast_zero, Int.natCast_one, Int.ofNat_eq_natCast, Int.natCast_nonneg, beq_self_eq_true, Option.isNone_none, Option.isNone_some, Bool.not_eq_true, List.append_nil, Option.bind_some, List.lookup_cons, List.contains_nil, List.contains_cons, r_worth_of its w (by rw [h2]; exact its_lt' h)]
theorem is_ob (x : Option Bool) (b : Bool) : dIs (dOB x) (.bool b) = some (.bool (decide (x = some b))) := by
  cases x with
  | none => rfl
  | some c => cases c <;> cases b <;> rfl
theorem isn_ob (x : Option Bool) (b : Bool) : dIsNot (dOB x) (.bool b) = some (.bool (decide (x ≠ some b))) := by
  cases x with
  | none => rfl
  | some c => cases c <;> cases b <;> rfl
theorem is_obN (x : Option Bool) : dIs (dOB x) .none = some (.bool (decide (x = none))) := by
  cases x <;> rfl
theorem isn_obN (x : Option Bool) : dIsNot (dOB x) .none = some (.bool (decide (x ≠ none))) := by
  cases x <;> rfl
theorem getD_ob (s : Sheet) (t : Nat) (h : t < s.length) : s.getD t none = s[t] := by
  rw [List.getD_eq_getElem?_getD, List.getElem?_eq_getElem h]; rfl
theorem insOf_len (s : Sheet) : (insOf s).length = s.length := by simp [insOf]
theorem maybe_len (s : Sheet) : (maybe s).length = s.length := by simp [maybe]
theorem leftOf_len (s : Sheet) (w : List Bool) (h : w.length = s.length) : (leftOf s w).length = s.length := by simp [leftOf, h]
theorem sc_ob (x : Option Bool) : sc (dOB x) = true := by cases x <;> rfl
theorem lc_ins (s : Sheet) (f : Bool) (i : Nat) (e : EnvD) (hi : frS e[i]? = true) (he : ∀ x : Option Bool, (e.set i (.v f (dOB x))).set i .u = e) (hn : ∀ x : Option Bool, (e.set i (.v f (dOB x)))[i]? = some (.v f (dOB x))) :
    lcLoop (.nm i) mtYes (mBin dIs (mVar i) (mC (.bool true))) [i] f (s.map dOB) e = some ((s.map fun x => (true, PyData.bool (decide (x = some true)))), e) := by
  rw [lcLoop_map1 (b := true) (g := fun x : Option Bool => PyData.bool (decide (x = some true))) (h := fun x _ => by
    simp only [x02, x9h, xa1, xa0, x9y, x9z, x9x, x33, x30, x2y, x2z, x32, x31, x52, x50, x4z, x51, x4y, x4w, x4x, xbh, xbm, xbi, xbf, xbg, xbe, xbj, xbl, xbk, xba, xbd, xbb, xbc, x7b, x7c, x7a, x7e, x7d, x78, x79, xb5, xb9, xb6, xb8, xb7, x00, x01, x8j, x8c, x18, x19, x1a, xb3, xb4, x0j, x0g, x0i, x0h, x8d, x8e, x8g, x8f, x82, x83, x84, xat, xar, xas, xal, xak, xap, xao, xan, xam, xeh, x07, x03, x04, x05, x06, x08, x09, x6j, x6c, x6d, x6e, x6f, x6g, x6h, x6i, x2q, x2p, x2r, x2s, xav, xaq, x77, x76, x3m, x3l, xa3, xa4, xab, xac, xad, xae, xaf, xag, xah, xai, xa5, xa6, xa7, xa8, xa9, xaa, xaj, x89, x8a, x8h, x8i, x9m, x9n, x9o, x9p, x9q, x9r, x9s, x6x, x6v, x6w, x20, x1v, x1w, x1y, x1x, x1z, x4v, x4t, x4u, x4q, x4r, x4s, x5b, x1b, x1i, x1h, x1g, x1d, x74, x75, x73, x6z, x6y, x72, x70, x71, x9e, x5k, x5l, x5m, x5n, x8x, x8y, x8z, x90, x91, x92, x93, x2v, x2t, x2u, xei, xej, xek, xel, x8w, x98, x99, xb1, xb2, xb0, xaz, x81, x80, x87, x88, x85, x86, xd1, xd0, x8t, x8s, x6r, x6n, x6p, x6o, x8b, x6k, x6l, x6m, x7z, x1c, x2b, x8v, x9f, x9v, x9w, x9u, x9t, x59, x5a, x8u, x97, x35, x34, x0o, x0a, x0b, x0d, x0c, x0e, x0p, x0q, x0r, x12, x0z, x10, x11, x5o, x5g, x9g, x9a, x9b, x9c, x9d, x0n, x0l, x0m, x36, xef, xeg, x4p, x4o, xax, xay, x53, x55, x54, xaw, xau, x3f, x3e, x3d, x3g, x8p, x8o, x8q, x8r, x7r, x7p, x7q, x7o, x7m, x7k, x7l, x7n, x7i, x7h, x7f, x7g, x14, x16, x17, x15, x13, x1f, x1e, x5j, x5h, x5i, x57, x58, x56, x27, x2a, x29, x28, x9k, x9j, x9l, x9i, x1j, x21, x22, x23, x26, x25, x24, x7v, x7w, x3n, x3h, x3i, x7j, x7s, x7t, x7u, x96, x95, x94, x5e, x5f, x5c, x3p, x3q, x3r, x3s, x3t, x3u, x3v, x3w, x3x, x4a, x4l, x49, x4b, x4c, x3j, x2o, x2j, x2d, x2i, x2m, x2n, x2c, x2h, x2g, x2f, x2e, x2k, x6s, x6u, x6t, x2x, x7y, x2w, x7x, x5u, x5r, x5q, x5v, x5s, x5p, x5t, x6a, x67, x66, x6b, x68, x65, x69, x5z, x5x, x5y, x5w, x60, x64, x63, x61, x62, xbn, xd2, xbt, xd8, xbo, xd3, xbr, xd6, xbp, xd4, xbq, xd5, xbs, xd7, xct, xe8, xcz, xee, xcu, xe9, xcx, xec, xcv, xea, xcw, xeb, xcy, xed, xbu, xd9, xc0, xdf, xbv, xda, xby, xdd, xbw, xdb, xbx, xdc, xbz, xde, xcf, xdu, xcl, xe0, xcg, xdv, xcj, xdy, xch, xdw, xci, xdx, xck, xdz, xc1, xdg, xc7, xdm, xc2, xdh, xc5, xdk, xc3, xdi, xc4, xdj, xc6, xdl, xc8, xdn, xce, xdt, xc9, xdo, xcc, xdr, xca, xdp, xcb, xdq, xcd, xds, xcm, xe1, xcs, xe7, xcn, xe2, xcq, xe5, xco, xe3, xcp, xe4, xcr, xe6, x8k, x8l, x8m, x8n, x0s, x0t, x0u, x0v, x0w, x0x, x0y, x3y, x4n, x41, x4e, x44, x4j, x47, x4g, x4m, x40, x4d, x43, x4i, x46, x4h, x3z, x42, x4f, x45, x4k, x48, x37, x3c, x38, x39, x3a, x3b, x1n, x1o, x1p, x1q, x1r, x1s, x1t, x1u, x1k, x1l, x1m, List.getElem?_cons_zero, List.getElem?_cons_succ, List.set_cons_zero, List.set_cons_succ, List.replicate, List.cons_append, List.nil_append, List.take_succ_cons, List.take_zero, List.getD_cons_zero, List.getD_cons_succ, List.map_cons, List.map_nil, if_true, if_false, Bool.true_and, Bool.and_true, Bool.false_and, Bool.and_false, Bool.true_or, Bool.or_true, Bool.false_or, Bool.or_false, Bool.not_true, Bool.not_false, reduceIte, Bool.false_eq_true, eq_self, Nat.sub_self, sc, noL, noLAll, Option.map_some, Int.toNat_natCast, Nat.reduceSub, Nat.reduceAdd, decide_true, decide_false, List.length_cons, List.length_nil, Int.reduceLT, Int.reduceLE, Int.reduceAdd, Int.reduceMul, Int.reduceSub, Int.reduceNeg, Int.reduceToNat, Int.reducePow, Int.reduceMod, Int.reduceDiv, Int.reduceEq, Nat.reducePow, Nat.reduceMul, Nat.reduceLT, Nat.reduceLeDiff, Int.ofNat_zero, Int.natCast_zero, Int.natCast_one, Int.ofNat_eq_natCast, Int.natCast_nonneg, beq_self_eq_true, Option.isNone_none, Option.isNone_some, Bool.not_eq_true, List.append_nil, Option.bind_some, List.lookup_cons, List.contains_nil, List.contains_cons, hi, hn, is_ob, he])]
theorem lc_maybe (s : Sheet) (f : Bool) (i : Nat) (e : EnvD) (hi : frS e[i]? = true) (he : ∀ x : Option Bool, (e.set i (.v f (dOB x))).set i .u = e) (hn : ∀ x : Option Bool, (e.set i (.v f (dOB x)))[i]? = some (.v f (dOB x))) :
    lcLoop (.nm i) mtYes (mBin dIsNot (mVar i) (mC (.bool false))) [i] f (s.map dOB) e = some ((s.map fun x => (true, PyData.bool (decide (x ≠ some false)))), e) := by
  rw [lcLoop_map1 (b := true) (g := fun x : Option Bool => PyData.bool (decide (x ≠ some false))) (h := fun x _ => by
    simp only [x02, x9h, xa1, xa0, x9y, x9z, x9x, x33, x30, x2y, x2z, x32, x31, x52, x50, x4z, x51, x4y, x4w, x4x, xbh, xbm, xbi, xbf, xbg, xbe, xbj, xbl, xbk, xba, xbd, xbb, xbc, x7b, x7c, x7a, x7e, x7d, x78, x79, xb5, xb9, xb6, xb8, xb7, x00, x01, x8j, x8c, x18, x19, x1a, xb3, xb4, x0j, x0g, x0i, x0h, x8d, x8e, x8g, x8f, x82, x83, x84, xat, xar, xas, xal, xak, xap, xao, xan, xam, xeh, x07, x03, x04, x05, x06, x08, x09, x6j, x6c, x6d, x6e, x6f, x6g, x6h, x6i, x2q, x2p, x2r, x2s, xav, xaq, x77, x76, x3m, x3l, xa3, xa4, xab, xac, xad, xae, xaf, xag, xah, xai, xa5, xa6, xa7, xa8, xa9, xaa, xaj, x89, x8a, x8h, x8i, x9m, x9n, x9o, x9p, x9q, x9r, x9s, x6x, x6v, x6w, x20, x1v, x1w, x1y, x1x, x1z, x4v, x4t, x4u, x4q, x4r, x4s, x5b, x1b, x1i, x1h, x1g, x1d, x74, x75, x73, x6z, x6y, x72, x70, x71, x9e, x5k, x5l, x5m, x5n, x8x, x8y, x8z, x90, x91, x92, x93, x2v, x2t, x2u, xei, xej, xek, xel, x8w, x98, x99, xb1, xb2, xb0, xaz, x81, x80, x87, x88, x85, x86, xd1, xd0, x8t, x8s, x6r, x6n, x6p, x6o, x8b, x6k, x6l, x6m, x7z, x1c, x2b, x8v, x9f, x9v, x9w, x9u, x9t, x59, x5a, x8u, x97, x35, x34, x0o, x0a, x0b, x0d, x0c, x0e, x0p, x0q, x0r, x12, x0z, x10, x11, x5o, x5g, x9g, x9a, x9b, x9c, x9d, x0n, x0l, x0m, x36, xef, xeg, x4p, x4o, xax, xay, x53, x55, x54, xaw, xau, x3f, x3e, x3d, x3g, x8p, x8o, x8q, x8r, x7r, x7p, x7q, x7o, x7m, x7k, x7l, x7n, x7i, x7h, x7f, x7g, x14, x16, x17, x15, x13, x1f, x1e, x5j, x5h, x5i, x57, x58, x56, x27, x2a, x29, x28, x9k, x9j, x9l, x9i, x1j, x21, x22, x23, x26, x25, x24, x7v, x7w, x3n, x3h, x3i, x7j, x7s, x7t, x7u, x96, x95, x94, x5e, x5f, x5c, x3p, x3q, x3r, x3s, x3t, x3u, x3v, x3w, x3x, x4a, x4l, x49, x4b, x4c, x3j, x2o, x2j, x2d, x2i, x2m, x2n, x2c, x2h, x2g, x2f, x2e, x2k, x6s, x6u, x6t, x2x, x7y, x2w, x7x, x5u, x5r, x5q, x5v, x5s, x5p, x5t, x6a, x67, x66, x6b, x68, x65, x69, x5z, x5x, x5y, x5w, x60, x64, x63, x61, x62, xbn, xd2, xbt, xd8, xbo, xd3, xbr, xd6, xbp, xd4, xbq, xd5, xbs, xd7, xct, xe8, xcz, xee, xcu, xe9, xcx, xec, xcv, xea, xcw, xeb, xcy, xed, xbu, xd9, xc0, xdf, xbv, xda, xby, xdd, xbw, xdb, xbx, xdc, xbz, xde, xcf, xdu, xcl, xe0, xcg, xdv, xcj, xdy, xch, xdw, xci, xdx, xck, xdz, xc1, xdg, xc7, xdm, xc2, xdh, xc5, xdk, xc3, xdi, xc4, xdj, xc6, xdl, xc8, xdn, xce, xdt, xc9, xdo, xcc, xdr, xca, xdp, xcb, xdq, xcd, xds, xcm, xe1, xcs, xe7, xcn, xe2, xcq, xe5, xco, xe3, xcp, xe4, xcr, xe6, x8k, x8l, x8m, x8n, x0s, x0t, x0u, x0v, x0w, x0x, x0y, x3y, x4n, x41, x4e, x44, x4j, x47, x4g, x4m, x40, x4d, x43, x4i, x46, x4h, x3z, x42, x4f, x45, x4k, x48, x37, x3c, x38, x39, x3a, x3b, x1n, x1o, x1p, x1q, x1r, x1s, x1t, x1u, x1k, x1l, x1m, List.getElem?_cons_zero, List.getElem?_cons_succ, List.set_cons_zero, List.set_cons_succ, List.replicate, List.cons_append, List.nil_append, List.take_succ_cons, List.take_zero, List.getD_cons_zero, List.getD_cons_succ, List.map_cons, List.map_nil, if_true, if_false, Bool.true_and, Bool.and_true, Bool.false_and, Bool.and_false, Bool.true_or, Bool.or_true, Bool.false_or, Bool.or_false, Bool.not_true, Bool.not_false, reduceIte, Bool.false_eq_true, eq_self, Nat.sub_self, sc, noL, noLAll, Option.map_some, Int.toNat_natCast, Nat.reduceSub, Nat.reduceAdd, decide_true, decide_false, List.length_cons, List.length_nil, Int.reduceLT, Int.reduceLE, Int.reduceAdd, Int.reduceMul, Int.reduceSub, Int.reduceNeg, Int.reduceToNat, Int.reducePow, Int.reduceMod, Int.reduceDiv, Int.reduceEq, Nat.reducePow, Nat.reduceMul, Nat.reduceLT, Nat.reduceLeDiff, Int.ofNat_zero, Int.natCast_zero, Int.natCast_one, Int.ofNat_eq_natCast, Int.natCast_nonneg, beq_self_eq_true, Option.isNone_none, Option.isNone_some, Bool.not_eq_true, List.append_nil, Option.bind_some, List.lookup_cons, List.contains_nil, List.contains_cons, hi, hn, isn_ob, he])]
theorem r_sure (p : Part) (s : Sheet) (h : p.ok s.length) : m_sure p [.ob false (obC p) (obFs p), .v false (dS s)] = some (.v true (.bool (p.sure s)), [.ob false (obC p) (obFs p), .v false (dS s)]) := by
  cases p with
  | inn t =>
    have ht : t < s.length := h t (List.mem_cons_self ..)
    show f_In_sure _ = _
    unfold f_In_sure b_In_sure obC obFs Part.sure
    simp only [x02, x9h, xa1, xa0, x9y, x9z, x9x, x33, x30, x2y, x2z, x32, x31, x52, x50, x4z, x51, x4y, x4w, x4x, xbh, xbm, xbi, xbf, xbg, xbe, xbj, xbl, xbk, xba, xbd, xbb, xbc, x7b, x7c, x7a, x7e, x7d, x78, x79, xb5, xb9, xb6, xb8, xb7, x00, x01, x8j, x8c, x18, x19, x1a, xb3, xb4, x0j, x0g, x0i, x0h, x8d, x8e, x8g, x8f, x82, x83, x84, xat, xar, xas, xal, xak, xap, xao, xan, xam, xeh, x07, x03, x04, x05, x06, x08, x09, x6j, x6c, x6d, x6e, x6f, x6g, x6h, x6i, x2q, x2p, x2r, x2s, xav, xaq, x77, x76, x3m, x3l, xa3, xa4, xab, xac, xad, xae, xaf, xag, xah, xai, xa5, xa6, xa7, xa8, xa9, xaa, xaj, x89, x8a, x8h, x8i, x9m, x9n, x9o, x9p, x9q, x9r, x9s, x6x, x6v, x6w, x20, x1v, x1w, x1y, x1x, x1z, x4v, x4t, x4u, x4q, x4r, x4s, x5b, x1b, x1i, x1h, x1g, x1d, x74, x75, x73, x6z, x6y, x72, x70, x71, x9e, x5k, x5l, x5m, x5n, x8x, x8y, x8z, x90, x91, x92, x93, x2v, x2t, x2u, xei, xej, xek, xel, x8w, x98, x99, xb1, xb2, xb0, xaz, x81, x80, x87, x88, x85, x86, xd1, xd0, x8t, x8s, x6r, x6n, x6p, x6o, x8b, x6k, x6l, x6m, x7z, x1c, x2b, x8v, x9f, x9v, x9w, x9u, x9t, x59, x5a, x8u, x97, x35, x34, x0o, x0a, x0b, x0d, x0c, x0e, x0p, x0q, x0r, x12, x0z, x10, x11, x5o, x5g, x9g, x9a, x9b, x9c, x9d, x0n, x0l, x0m, x36, xef, xeg, x4p, x4o, xax, xay, x53, x55, x54, xaw, xau, x3f, x3e, x3d, x3g, x8p, x8o, x8q, x8r, x7r, x7p, x7q, x7o, x7m, x7k, x7l, x7n, x7i, x7h, x7f, x7g, x14, x16, x17, x15, x13, x1f, x1e, x5j, x5h, x5i, x57, x58, x56, x27, x2a, x29, x28, x9k, x9j, x9l, x9i, x1j, x21, x22, x23, x26, x25, x24, x7v, x7w, x3n, x3h, x3i, x7j, x7s, x7t, x7u, x96, x95, x94, x5e, x5f, x5c, x3p, x3q, x3r, x3s, x3t, x3u, x3v, x3w, x3x, x4a, x4l, x49, x4b, x4c, x3j, x2o, x2j, x2d, x2i, x2m, x2n, x2c, x2h, x2g, x2f, x2e, x2k, x6s, x6u, x6t, x2x, x7y, x2w, x7x, x5u, x5r, x5q, x5v, x5s, x5p, x5t, x6a, x67, x66, x6b, x68, x65, x69, x5z, x5x, x5y, x5w, x60, x64, x63, x61, x62, xbn, xd2, xbt, xd8, xbo, xd3, xbr, xd6, xbp, xd4, xbq, xd5, xbs, xd7, xct, xe8, xcz, xee, xcu, xe9, xcx, xec, xcv, xea, xcw, xeb, xcy, xed, xbu, xd9, xc0, xdf, xbv, xda, xby, xdd, xbw, xdb, xbx, xdc, xbz, xde, xcf, xdu, xcl, xe0, xcg, xdv, xcj, xdy, xch, xdw, xci, xdx, xck, xdz, xc1, xdg, xc7, xdm, xc2, xdh, xc5, xdk, xc3, xdi, xc4, xdj, xc6, xdl, xc8, xdn, xce, xdt, xc9, xdo, xcc, xdr, xca, xdp, xcb, xdq, xcd, xds, xcm, xe1, xcs, xe7, xcn, xe2, xcq, xe5, xco, xe3, xcp, xe4, xcr, xe6, x8k, x8l, x8m, x8n, x0s, x0t, x0u, x0v, x0w, x0x, x0y, x3y, x4n, x41, x4e, x44, x4j, x47, x4g, x4m, x40, x4d, x43, x4i, x46, x4h, x3z, x42, x4f, x45, x4k, x48, x37, x3c, x38, x39, x3a, x3b, x1n, x1o, x1p, x1q, x1r, x1s, x1t, x1u, x1k, x1l, x1m, List.getElem?_cons_zero, List.getElem?_cons_succ, List.set_cons_zero, List.set_cons_succ, List.replicate, List.cons_append, List.nil_append, List.take_succ_cons, List.take_zero, List.getD_cons_zero, List.getD_cons_succ, List.map_cons, List.map_nil, if_true, if_false, Bool.true_and, Bool.and_true, Bool.false_and, Bool.and_false, Bool.true_or, Bool.or_true, Bool.false_or, Bool.or_false, Bool.not_true, Bool.not_false, reduceIte, Bool.false_eq_true, eq_self, Nat.sub_self, sc, noL, noLAll, Option.map_some, Int.toNat_natCast, Nat.reduceSub, Nat.reduceAdd, decide_true, decide_false, List.length_cons, List.length_nil, Int.reduceLT, Int.reduceLE, Int.reduceAdd, Int.reduceMul, Int.reduceSub, Int.reduceNeg, Int.reduceToNat, Int.reducePow, Int.reduceMod, Int.reduceDiv, Int.reduceEq, Nat.reducePow, Nat.reduceMul, Nat.reduceLT, Nat.reduceLeDiff, Int.ofNat_zero, Int.natCast_zero, Int.natCast_one, Int.ofNat_eq_natCast, Int.natCast_nonneg, beq_self_eq_true, Option.isNone_none, Option.isNone_some, Bool.not_eq_true, List.append_nil, Option.bind_some, List.lookup_cons, List.contains_nil, List.contains_cons, atI_map _ _ _ ht, getD_ob _ _ ht, is_ob]
  | out t =>
    have ht : t < s.length := h t (List.mem_cons_self ..)
    show f_Out_sure _ = _
    unfold f_Out_sure b_Out_sure obC obFs Part.sure
    simp only [x02, x9h, xa1, xa0, x9y, x9z, x9x, x33, x30, x2y, x2z, x32, x31, x52, x50, x4z, x51, x4y, x4w, x4x, xbh, xbm, xbi, xbf, xbg, xbe, xbj, xbl, xbk, xba, xbd, xbb, xbc, x7b, x7c, x7a, x7e, x7d, x78, x79, xb5, xb9, xb6, xb8, xb7, x00, x01, x8j, x8c, x18, x19, x1a, xb3, xb4, x0j, x0g, x0i, x0h, x8d, x8e, x8g, x8f, x82, x83, x84, xat, xar, xas, xal, xak, xap, xao, xan, xam, xeh, x07, x03, x04, x05, x06, x08, x09, x6j, x6c, x6d, x6e, x6f, x6g, x6h, x6i, x2q, x2p, x2r, x2s, xav, xaq, x77, x76, x3m, x3l, xa3, xa4, xab, xac, xad, xae, xaf, xag, xah, xai, xa5, xa6, xa7, xa8, xa9, xaa, xaj, x89, x8a, x8h, x8i, x9m, x9n, x9o, x9p, x9q, x9r, x9s, x6x, x6v, x6w, x20, x1v, x1w, x1y, x1x, x1z, x4v, x4t, x4u, x4q, x4r, x4s, x5b, x1b, x1i, x1h, x1g, x1d, x74, x75, x73, x6z, x6y, x72, x70, x71, x9e, x5k, x5l, x5m, x5n, x8x, x8y, x8z, x90, x91, x92, x93, x2v, x2t, x2u, xei, xej, xek, xel, x8w, x98, x99, xb1, xb2, xb0, xaz, x81, x80, x87, x88, x85, x86, xd1, xd0, x8t, x8s, x6r, x6n, x6p, x6o, x8b, x6k, x6l, x6m, x7z, x1c, x2b, x8v, x9f, x9v, x9w, x9u, x9t, x59, x5a, x8u, x97, x35, x34, x0o, x0a, x0b, x0d, x0c, x0e, x0p, x0q, x0r, x12, x0z, x10, x11, x5o, x5g, x9g, x9a, x9b, x9c, x9d, x0n, x0l, x0m, x36, xef, xeg, x4p, x4o, xax, xay, x53, x55, x54, xaw, xau, x3f, x3e, x3d, x3g, x8p, x8o, x8q, x8r, x7r, x7p, x7q, x7o, x7m, x7k, x7l, x7n, x7i, x7h, x7f, x7g, x14, x16, x17, x15, x13, x1f, x1e, x5j, x5h, x5i, x57, x58, x56, x27, x2a, x29, x28, x9k, x9j, x9l, x9i, x1j, x21, x22, x23, x26, x25, x24, x7v, x7w, x3n, x3h, x3i, x7j, x7s, x7t, x7u, x96, x95, x94, x5e, x5f, x5c, x3p, x3q, x3r, x3s, x3t, x3u, x3v, x3w, x3x, x4a, x4l, x49, x4b, x4c, x3j, x2o, x2j, x2d, x2i, x2m, x2n, x2c, x2h, x2g, x2f, x2e, x2k, x6s, x6u, x6t, x2x, x7y, x2w, x7x, x5u, x5r, x5q, x5v, x5s, x5p, x5t, x6a, x67, x66, x6b, x68, x65, x69, x5z, x5x, x5y, x5w, x60, x64, x63, x61, x62, xbn, xd2, xbt, xd8, xbo, xd3, xbr, xd6, xbp, xd4, xbq, xd5, xbs, xd7, xct, xe8, xcz, xee, xcu, xe9, xcx, xec, xcv, xea, xcw, xeb, xcy, xed, xbu, xd9, xc0, xdf, xbv, xda, xby, xdd, xbw, xdb, xbx, xdc, xbz, xde, xcf, xdu, xcl, xe0, xcg, xdv, xcj, xdy, xch, xdw, xci, xdx, xck, xdz, xc1, xdg, xc7, xdm, xc2, xdh, xc5, xdk, xc3, xdi, xc4, xdj, xc6, xdl, xc8, xdn, xce, xdt, xc9, xdo, xcc, xdr, xca, xdp, xcb, xdq, xcd, xds, xcm, xe1, xcs, xe7, xcn, xe2, xcq, xe5, xco, xe3, xcp, xe4, xcr, xe6, x8k, x8l, x8m, x8n, x0s, x0t, x0u, x0v, x0w, x0x, x0y, x3y, x4n, x41, x4e, x44, x4j, x47, x4g, x4m, x40, x4d, x43, x4i, x46, x4h, x3z, x42, x4f, x45, x4k, x48, x37, x3c, x38, x39, x3a, x3b, x1n, x1o, x1p, x1q, x1r, x1s, x1t, x1u, x1k, x1l, x1m, List.getElem?_cons_zero, List.getElem?_cons_succ, List.set_cons_zero, List.set_cons_succ, List.replicate, List.cons_append, List.nil_append, List.take_succ_cons, List.take_zero, List.getD_cons_zero, List.getD_cons_succ, List.map_cons, List.map_nil, if_true, if_false, Bool.true_and, Bool.and_true, Bool.false_and, Bool.and_false, Bool.true_or, Bool.or_true, Bool.false_or, Bool.or_false, Bool.not_true, Bool.not_false, reduceIte, Bool.false_eq_true, eq_self, Nat.sub_self, sc, noL, noLAll, Option.map_some, Int.toNat_natCast, Nat.reduceSub, Nat.reduceAdd, decide_true, decide_false, List.length_cons, List.length_nil, Int.reduceLT, Int.reduceLE, Int.reduceAdd, Int.reduceMul, Int.reduceSub, Int.reduceNeg, Int.reduceToNat, Int.reducePow, Int.reduceMod, Int.reduceDiv, Int.reduceEq, Nat.reducePow, Nat.reduceMul, Nat.reduceLT, Nat.reduceLeDiff, Int.ofNat_zero, Int.natCast_zero, Int.natCast_one, Int.ofNat_eq_natCast, Int.natCast_nonneg, beq_self_eq_true, Option.isNone_none, Option.isNone_some, Bool.not_eq_true, List.append_nil, Option.bind_some, List.lookup_cons, List.contains_nil, List.contains_cons, atI_map _ _ _ ht, getD_ob _ _ ht, is_ob]
  | least k its =>
    show f_Least_sure _ = _
    have L := r_worth_of its (insOf s) (by rw [insOf_len]; exact its_lt h)
    unfold f_Least_sure b_Least_sure obC obFs Part.sure
    simp only [x02, x9h, xa1, xa0, x9y, x9z, x9x, x33, x30, x2y, x2z, x32, x31, x52, x50, x4z, x51, x4y, x4w, x4x, xbh, xbm, xbi, xbf, xbg, xbe, xbj, xbl, xbk, xba, xbd, xbb, xbc, x7b, x7c, x7a, x7e, x7d, x78, x79, xb5, xb9, xb6, xb8, xb7, x00, x01, x8j, x8c, x18, x19, x1a, xb3, xb4, x0j, x0g, x0i, x0h, x8d, x8e, x8g, x8f, x82, x83, x84, xat, xar, xas, xal, xak, xap, xao, xan, xam, xeh, x07, x03, x04, x05, x06, x08, x09, x6j, x6c, x6d, x6e, x6f, x6g, x6h, x6i, x2q, x2p, x2r, x2s, xav, xaq, x77, x76, x3m, x3l, xa3, xa4, xab, xac, xad, xae, xaf, xag, xah, xai, xa5, xa6, xa7, xa8, xa9, xaa, xaj, x89, x8a, x8h, x8i, x9m, x9n, x9o, x9p, x9q, x9r, x9s, x6x, x6v, x6w, x20, x1v, x1w, x1y, x1x, x1z, x4v, x4t, x4u, x4q, x4r, x4s, x5b, x1b, x1i, x1h, x1g, x1d, x74, x75, x73, x6z, x6y, x72, x70, x71, x9e, x5k, x5l, x5m, x5n, x8x, x8y, x8z, x90, x91, x92, x93, x2v, x2t, x2u, xei, xej, xek, xel, x8w, x98, x99, xb1, xb2, xb0, xaz, x81, x80, x87, x88, x85, x86, xd1, xd0, x8t, x8s, x6r, x6n, x6p, x6o, x8b, x6k, x6l, x6m, x7z, x1c, x2b, x8v, x9f, x9v, x9w, x9u, x9t, x59, x5a, x8u, x97, x35, x34, x0o, x0a, x0b, x0d, x0c, x0e, x0p, x0q, x0r, x12, x0z, x10, x11, x5o, x5g, x9g, x9a, x9b, x9c, x9d, x0n, x0l, x0m, x36, xef, xeg, x4p, x4o, xax, xay, x53, x55, x54, xaw, xau, x3f, x3e, x3d, x3g, x8p, x8o, x8q, x8r, x7r, x7p, x7q, x7o, x7m, x7k, x7l, x7n, x7i, x7h, x7f, x7g, x14, x16, x17, x15, x13, x1f, x1e, x5j, x5h, x5i, x57, x58, x56, x27, x2a, x29, x28, x9k, x9j, x9l, x9i, x1j, x21, x22, x23, x26, x25, x24, x7v, x7w, x3n, x3h, x3i, x7j, x7s, x7t, x7u, x96, x95, x94, x5e, x5f, x5c, x3p, x3q, x3r, x3s, x3t, x3u, x3v, x3w, x3x, x4a, x4l, x49, x4b, x4c, x3j, x2o, x2j, x2d, x2i, x2m, x2n, x2c, x2h, x2g, x2f, x2e, x2k, x6s, x6u, x6t, x2x, x7y, x2w, x7x, x5u, x5r, x5q, x5v, x5s, x5p, x5t, x6a, x67, x66, x6b, x68, x65, x69, x5z, x5x, x5y, x5w, x60, x64, x63, x61, x62, xbn, xd2, xbt, xd8, xbo, xd3, xbr, xd6, xbp, xd4, xbq, xd5, xbs, xd7, xct, xe8, xcz, xee, xcu, xe9, xcx, xec, xcv, xea, xcw, xeb, xcy, xed, xbu, xd9, xc0, xdf, xbv, xda, xby, xdd, xbw, xdb, xbx, xdc, xbz, xde, xcf, xdu, xcl, xe0, xcg, xdv, xcj, xdy, xch, xdw, xci, xdx, xck, xdz, xc1, xdg, xc7, xdm, xc2, xdh, xc5, xdk, xc3, xdi, xc4, xdj, xc6, xdl, xc8, xdn, xce, xdt, xc9, xdo, xcc, xdr, xca, xdp, xcb, xdq, xcd, xds, xcm, xe1, xcs, xe7, xcn, xe2, xcq, xe5, xco, xe3, xcp, xe4, xcr, xe6, x8k, x8l, x8m, x8n, x0s, x0t, x0u, x0v, x0w, x0x, x0y, x3y, x4n, x41, x4e, x44, x4j, x47, x4g, x4m, x40, x4d, x43, x4i, x46, x4h, x3z, x42, x4f, x45, x4k, x48, x37, x3c, x38, x39, x3a, x3b, x1n, x1o, x1p, x1q, x1r, x1s, x1t, x1u, x1k, x1l, x1m, List.getElem?_cons_zero, List.getElem?_cons_succ, List.set_cons_zero, List.set_cons_succ, List.replicate, List.cons_append, List.nil_append, List.take_succ_cons, List.take_zero, List.getD_cons_zero, List.getD_cons_succ, List.map_cons, List.map_nil, if_true, if_false, Bool.true_and, Bool.and_true, Bool.false_and, Bool.and_false, Bool.true_or, Bool.or_true, Bool.false_or, Bool.or_false, Bool.not_true, Bool.not_false, reduceIte, Bool.false_eq_true, eq_self, Nat.sub_self, sc, noL, noLAll, Option.map_some, Int.toNat_natCast, Nat.reduceSub, Nat.reduceAdd, decide_true, decide_false, List.length_cons, List.length_nil, Int.reduceLT, Int.reduceLE, Int.reduceAdd, Int.reduceMul, Int.reduceSub, Int.reduceNeg, Int.reduceToNat, Int.reducePow, Int.reduceMod, Int.reduceDiv, Int.reduceEq, Nat.reducePow, Nat.reduceMul, Nat.reduceLT, Nat.reduceLeDiff, Int.ofNat_zero, Int.natCast_zero, Int.natCast_one, Int.ofNat_eq_natCast, Int.natCast_nonneg, beq_self_eq_true, Option.isNone_none, Option.isNone_some, Bool.not_eq_true, List.append_nil, Option.bind_some, List.lookup_cons, List.contains_nil, List.contains_cons]
    rw [lc_ins s _ _ _ rfl (fun _ => rfl) (fun _ => rfl)]
    simp only [x02, x9h, xa1, xa0, x9y, x9z, x9x, x33, x30, x2y, x2z, x32, x31, x52, x50, x4z, x51, x4y, x4w, x4x, xbh, xbm, xbi, xbf, xbg, xbe, xbj, xbl, xbk, xba, xbd, xbb, xbc, x7b, x7c, x7a, x7e, x7d, x78, x79, xb5, xb9, xb6, xb8, xb7, x00, x01, x8j, x8c, x18, x19, x1a, xb3, xb4, x0j, x0g, x0i, x0h, x8d, x8e, x8g, x8f, x82, x83, x84, xat, xar, xas, xal, xak, xap, xao, xan, xam, xeh, x07, x03, x04, x05, x06, x08, x09, x6j, x6c, x6d, x6e, x6f, x6g, x6h, x6i, x2q, x2p, x2r, x2s, xav, xaq, x77, x76, x3m, x3l, xa3, xa4, xab, xac, xad, xae, xaf, xag, xah, xai, xa5, xa6, xa7, xa8, xa9, xaa, xaj, x89, x8a, x8h, x8i, x9m, x9n, x9o, x9p, x9q, x9r, x9s, x6x, x6v, x6w, x20, x1v, x1w, x1y, x1x, x1z, x4v, x4t, x4u, x4q, x4r, x4s, x5b, x1b, x1i, x1h, x1g, x1d, x74, x75, x73, x6z, x6y, x72, x70, x71, x9e, x5k, x5l, x5m, x5n, x8x, x8y, x8z, x90, x91, x92, x93, x2v, x2t, x2u, xei, xej, xek, xel, x8w, x98, x99, xb1, xb2, xb0, xaz, x81, x80, x87, x88, x85, x86, xd1, xd0, x8t, x8s, x6r, x6n, x6p, x6o, x8b, x6k, x6l, x6m, x7z, x1c, x2b, x8v, x9f, x9v, x9w, x9u, x9t, x59, x5a, x8u, x97, x35, x34, x0o, x0a, x0b, x0d, x0c, x0e, x0p, x0q, x0r, x12, x0z, x10, x11, x5o, x5g, x9g, x9a, x9b, x9c, x9d, x0n, x0l, x0m, x36, xef, xeg, x4p, x4o, xax, xay, x53, x55, x54, xaw, xau, x3f, x3e, x3d, x3g, x8p, x8o, x8q, x8r, x7r, x7p, x7q, x7o, x7m, x7k, x7l, x7n, x7i, x7h, x7f, x7g, x14, x16, x17, x15, x13, x1f, x1e, x5j, x5h, x5i, x57, x58, x56, x27, x2a, x29, x28, x9k, x9j, x9l, x9i, x1j, x21, x22, x23, x26, x25, x24, x7v, x7w, x3n, x3h, x3i, x7j, x7s, x7t, x7u, x96, x95, x94, x5e, x5f, x5c, x3p, x3q, x3r, x3s, x3t, x3u, x3v, x3w, x3x, x4a, x4l, x49, x4b, x4c, x3j, x2o, x2j, x2d, x2i, x2m, x2n, x2c, x2h, x2g, x2f, x2e, x2k, x6s, x6u, x6t, x2x, x7y, x2w, x7x, x5u, x5r, x5q, x5v, x5s, x5p, x5t, x6a, x67, x66, x6b, x68, x65, x69, x5z, x5x, x5y, x5w, x60, x64, x63, x61, x62, xbn, xd2, xbt, xd8, xbo, xd3, xbr, xd6, xbp, xd4, xbq, xd5, xbs, xd7, xct, xe8, xcz, xee, xcu, xe9, xcx, xec, xcv, xea, xcw, xeb, xcy, xed, xbu, xd9, xc0, xdf, xbv, xda, xby, xdd, xbw, xdb, xbx, xdc, xbz, xde, xcf, xdu, xcl, xe0, xcg, xdv, xcj, xdy, xch, xdw, xci, xdx, xck, xdz, xc1, xdg, xc7, xdm, xc2, xdh, xc5, xdk, xc3, xdi, xc4, xdj, xc6, xdl, xc8, xdn, xce, xdt, xc9, xdo, xcc, xdr, xca, xdp, xcb, xdq, xcd, xds, xcm, xe1, xcs, xe7, xcn, xe2, xcq, xe5, xco, xe3, xcp, xe4, xcr, xe6, x8k, x8l, x8m, x8n, x0s, x0t, x0u, x0v, x0w, x0x, x0y, x3y, x4n, x41, x4e, x44, x4j, x47, x4g, x4m, x40, x4d, x43, x4i, x46, x4h, x3z, x42, x4f, x45, x4k, x48, x37, x3c, x38, x39, x3a, x3b, x1n, x1o, x1p, x1q, x1r, x1s, x1t, x1u, x1k, x1l, x1m, List.getElem?_cons_zero, List.getElem?_cons_succ, List.set_cons_zero, List.set_cons_succ, List.replicate, List.cons_append, List.nil_append, List.take_succ_cons, List.take_zero, List.getD_cons_zero, List.getD_cons_succ, List.map_cons, List.map_nil, if_true, if_false, Bool.true_and, Bool.and_true, Bool.false_and, Bool.and_false, Bool.true_or, Bool.or_true, Bool.false_or, Bool.or_false, Bool.not_true, Bool.not_false, reduceIte, Bool.false_eq_true, eq_self, Nat.sub_self, sc, noL, noLAll, Option.map_some, Int.toNat_natCast, Nat.reduceSub, Nat.reduceAdd, decide_true, decide_false, List.length_cons, List.length_nil, Int.reduceLT, Int.reduceLE, Int.reduceAdd, Int.reduceMul, Int.reduceSub, Int.reduceNeg, Int.reduceToNat, Int.reducePow, Int.reduceMod, Int.reduceDiv, Int.reduceEq, Nat.reducePow, Nat.reduceMul, Nat.reduceLT, Nat.reduceLeDiff, Int.ofNat_zero, Int.natCast_zero, Int.natCast_one, Int.ofNat_eq_natCast, Int.natCast_nonneg, beq_self_eq_true, Option.isNone_none, Option.isNone_some, Bool.not_eq_true, List.append_nil, Option.bind_some, List.lookup_cons, List.contains_nil, List.contains_cons, flagT, map_snd]
    rw [show (s.map fun x => PyData.bool (decide (x = some true))) = (insOf s).map .bool from by unfold insOf; rw [List.map_map]; rfl]
    simp only [x02, x9h, xa1, xa0, x9y, x9z, x9x, x33, x30, x2y, x2z, x32, x31, x52, x50, x4z, x51, x4y, x4w, x4x, xbh, xbm, xbi, xbf, xbg, xbe, xbj, xbl, xbk, xba, xbd, xbb, xbc, x7b, x7c, x7a, x7e, x7d, x78, x79, xb5, xb9, xb6, xb8, xb7, x00, x01, x8j, x8c, x18, x19, x1a, xb3, xb4, x0j, x0g, x0i, x0h, x8d, x8e, x8g, x8f, x82, x83, x84, xat, xar, xas, xal, xak, xap, xao, xan, xam, xeh, x07, x03, x04, x05, x06, x08, x09, x6j, x6c, x6d, x6e, x6f, x6g, x6h, x6i, x2q, x2p, x2r, x2s, xav, xaq, x77, x76, x3m, x3l, xa3, xa4, xab, xac, xad, xae, xaf, xag, xah, xai, xa5, xa6, xa7, xa8, xa9, xaa, xaj, x89, x8a, x8h, x8i, x9m, x9n, x9o, x9p, x9q, x9r, x9s, x6x, x6v, x6w, x20, x1v, x1w, x1y, x1x, x1z, x4v, x4t, x4u, x4q, x4r, x4s, x5b, x1b, x1i, x1h, x1g, x1d, x74, x75, x73, x6z, x6y, x72, x70, x71, x9e, x5k, x5l, x5m, x5n, x8x, x8y, x8z, x90, x91, x92, x93, x2v, x2t, x2u, xei, xej, xek, xel, x8w, x98, x99, xb1, xb2, xb0, xaz, x81, x80, x87, x88, x85, x86, xd1, xd0, x8t, x8s, x6r, x6n, x6p, x6o, x8b, x6k, x6l, x6m, x7z, x1c, x2b, x8v, x9f, x9v, x9w, x9u, x9t, x59, x5a, x8u, x97, x35, x34, x0o, x0a, x0b, x0d, x0c, x0e, x0p, x0q, x0r, x12, x0z, x10, x11, x5o, x5g, x9g, x9a, x9b, x9c, x9d, x0n, x0l, x0m, x36, xef, xeg, x4p, x4o, xax, xay, x53, x55, x54, xaw, xau, x3f, x3e, x3d, x3g, x8p, x8o, x8q, x8r, x7r, x7p, x7q, x7o, x7m, x7k, x7l, x7n, x7i, x7h, x7f, x7g, x14, x16, x17, x15, x13, x1f, x1e, x5j, x5h, x5i, x57, x58, x56, x27, x2a, x29, x28, x9k, x9j, x9l, x9i, x1j, x21, x22, x23, x26, x25, x24, x7v, x7w, x3n, x3h, x3i, x7j, x7s, x7t, x7u, x96, x95, x94, x5e, x5f, x5c, x3p, x3q, x3r, x3s, x3t, x3u, x3v, x3w, x3x, x4a, x4l, x49, x4b, x4c, x3j, x2o, x2j, x2d, x2i, x2m, x2n, x2c, x2h, x2g, x2f, x2e, x2k, x6s, x6u, x6t, x2x, x7y, x2w, x7x, x5u, x5r, x5q, x5v, x5s, x5p, x5t, x6a, x67, x66, x6b, x68, x65, x69, x5z, x5x, x5y, x5w, x60, x64, x63, x61, x62, xbn, xd2, xbt, xd8, xbo, xd3, xbr, xd6, xbp, xd4, xbq, xd5, xbs, xd7, xct, xe8, xcz, xee, xcu, xe9, xcx, xec, xcv, xea, xcw, xeb, xcy, xed, xbu, xd9, xc0, xdf, xbv, xda, xby, xdd, xbw, xdb, xbx, xdc, xbz, xde, xcf, xdu, xcl, xe0, xcg, xdv, xcj, xdy, xch, xdw, xci, xdx, xck, xdz, xc1, xdg, xc7, xdm, xc2, xdh, xc5, xdk, xc3, xdi, xc4, xdj, xc6, xdl, xc8, xdn, xce, xdt, xc9, xdo, xcc, xdr, xca, xdp, xcb, xdq, xcd, xds, xcm, xe1, xcs, xe7, xcn, xe2, xcq, xe5, xco, xe3, xcp, xe4, xcr, xe6, x8k, x8l, x8m, x8n, x0s, x0t, x0u, x0v, x0w, x0x, x0y, x3y, x4n, x41, x4e, x44, x4j, x47, x4g, x4m, x40, x4d, x43, x4i, x46, x4h, x3z, x42, x4f, x45, x4k, x48, x37, x3c, x38, x39, x3a, x3b, x1n, x1o, x1p, x1q, x1r, x1s, x1t, x1u, x1k, x1l, x1m, List.getElem?_cons_zero, List.getElem?_cons_succ, List.set_cons_zero, List.set_cons_succ, List.replicate, List.cons_append, List.nil_append, List.take_succ_cons, List.take_zero, List.getD_cons_zero, List.getD_cons_succ, List.map_cons, List.map_nil, if_true, if_false, Bool.true_and, Bool.and_true, Bool.false_and, Bool.and_false, Bool.true_or, Bool.or_true, Bool.false_or, Bool.or_false, Bool.not_true, Bool.not_false, reduceIte, Bool.false_eq_true, eq_self, Nat.sub_self, sc, noL, noLAll, Option.map_some, Int.toNat_natCast, Nat.reduceSub, Nat.reduceAdd, decide_true, decide_false, List.length_cons, List.length_nil, Int.reduceLT, Int.reduceLE, Int.reduceAdd, Int.reduceMul, Int.reduceSub, Int.reduceNeg, Int.reduceToNat, Int.reducePow, Int.reduceMod, Int.reduceDiv, Int.reduceEq, Nat.reducePow, Nat.reduceMul, Nat.reduceLT, Nat.reduceLeDiff, Int.ofNat_zero, Int.natCast_zero, Int.natCast_one, Int.ofNat_eq_natCast, Int.natCast_nonneg, beq_self_eq_true, Option.isNone_none, Option.isNone_some, Bool.not_eq_true, List.append_nil, Option.bind_some, List.lookup_cons, List.contains_nil, List.contains_cons, L]
  | most k its =>
    show f_Most_sure _ = _
    have L := r_worth_of its (maybe s) (by rw [maybe_len]; exact its_lt' h)
    unfold f_Most_sure b_Most_sure obC obFs Part.sure
    simp only [x02, x9h, xa1, xa0, x9y, x9z, x9x, x33, x30, x2y, x2z, x32, x31, x52, x50, x4z, x51, x4y, x4w, x4x, xbh, xbm, xbi, xbf, xbg, xbe, xbj, xbl, xbk, xba, xbd, xbb, xbc, x7b, x7c, x7a, x7e, x7d, x78, x79, xb5, xb9, xb6, xb8, xb7, x00, x01, x8j, x8c, x18, x19, x1a, xb3, xb4, x0j, x0g, x0i, x0h, x8d, x8e, x8g, x8f, x82, x83, x84, xat, xar, xas, xal, xak, xap, xao, xan, xam, xeh, x07, x03, x04, x05, x06, x08, x09, x6j, x6c, x6d, x6e, x6f, x6g, x6h, x6i, x2q, x2p, x2r, x2s, xav, xaq, x77, x76, x3m, x3l, xa3, xa4, xab, xac, xad, xae, xaf, xag, xah, xai, xa5, xa6, xa7, xa8, xa9, xaa, xaj, x89, x8a, x8h, x8i, x9m, x9n, x9o, x9p, x9q, x9r, x9s, x6x, x6v, x6w, x20, x1v, x1w, x1y, x1x, x1z, x4v, x4t, x4u, x4q, x4r, x4s, x5b, x1b, x1i, x1h, x1g, x1d, x74, x75, x73, x6z, x6y, x72, x70, x71, x9e, x5k, x5l, x5m, x5n, x8x, x8y, x8z, x90, x91, x92, x93, x2v, x2t, x2u, xei, xej, xek, xel, x8w, x98, x99, xb1, xb2, xb0, xaz, x81, x80, x87, x88, x85, x86, xd1, xd0, x8t, x8s, x6r, x6n, x6p, x6o, x8b, x6k, x6l, x6m, x7z, x1c, x2b, x8v, x9f, x9v, x9w, x9u, x9t, x59, x5a, x8u, x97, x35, x34, x0o, x0a, x0b, x0d, x0c, x0e, x0p, x0q, x0r, x12, x0z, x10, x11, x5o, x5g, x9g, x9a, x9b, x9c, x9d, x0n, x0l, x0m, x36, xef, xeg, x4p, x4o, xax, xay, x53, x55, x54, xaw, xau, x3f, x3e, x3d, x3g, x8p, x8o, x8q, x8r, x7r, x7p, x7q, x7o, x7m, x7k, x7l, x7n, x7i, x7h, x7f, x7g, x14, x16, x17, x15, x13, x1f, x1e, x5j, x5h, x5i, x57, x58, x56, x27, x2a, x29, x28, x9k, x9j, x9l, x9i, x1j, x21, x22, x23, x26, x25, x24, x7v, x7w, x3n, x3h, x3i, x7j, x7s, x7t, x7u, x96, x95, x94, x5e, x5f, x5c, x3p, x3q, x3r, x3s, x3t, x3u, x3v, x3w, x3x, x4a, x4l, x49, x4b, x4c, x3j, x2o, x2j, x2d, x2i, x2m, x2n, x2c, x2h, x2g, x2f, x2e, x2k, x6s, x6u, x6t, x2x, x7y, x2w, x7x, x5u, x5r, x5q, x5v, x5s, x5p, x5t, x6a, x67, x66, x6b, x68, x65, x69, x5z, x5x, x5y, x5w, x60, x64, x63, x61, x62, xbn, xd2, xbt, xd8, xbo, xd3, xbr, xd6, xbp, xd4, xbq, xd5, xbs, xd7, xct, xe8, xcz, xee, xcu, xe9, xcx, xec, xcv, xea, xcw, xeb, xcy, xed, xbu, xd9, xc0, xdf, xbv, xda, xby, xdd, xbw, xdb, xbx, xdc, xbz, xde, xcf, xdu, xcl, xe0, xcg, xdv, xcj, xdy, xch, xdw, xci, xdx, xck, xdz, xc1, xdg, xc7, xdm, xc2, xdh, xc5, xdk, xc3, xdi, xc4, xdj, xc6, xdl, xc8, xdn, xce, xdt, xc9, xdo, xcc, xdr, xca, xdp, xcb, xdq, xcd, xds, xcm, xe1, xcs, xe7, xcn, xe2, xcq, xe5, xco, xe3, xcp, xe4, xcr, xe6, x8k, x8l, x8m, x8n, x0s, x0t, x0u, x0v, x0w, x0x, x0y, x3y, x4n, x41, x4e, x44, x4j, x47, x4g, x4m, x40, x4d, x43, x4i, x46, x4h, x3z, x42, x4f, x45, x4k, x48, x37, x3c, x38, x39, x3a, x3b, x1n, x1o, x1p, x1q, x1r, x1s, x1t, x1u, x1k, x1l, x1m, List.getElem?_cons_zero, List.getElem?_cons_succ, List.set_cons_zero, List.set_cons_succ, List.replicate, List.cons_append, List.nil_append, List.take_succ_cons, List.take_zero, List.getD_cons_zero, List.getD_cons_succ, List.map_cons, List.map_nil, if_true, if_false, Bool.true_and, Bool.and_true, Bool.false_and, Bool.and_false, Bool.true_or, Bool.or_true, Bool.false_or, Bool.or_false, Bool.not_true, Bool.not_false, reduceIte, Bool.false_eq_true, eq_self, Nat.sub_self, sc, noL, noLAll, Option.map_some, Int.toNat_natCast, Nat.reduceSub, Nat.reduceAdd, decide_true, decide_false, List.length_cons, List.length_nil, Int.reduceLT, Int.reduceLE, Int.reduceAdd, Int.reduceMul, Int.reduceSub, Int.reduceNeg, Int.reduceToNat, Int.reducePow, Int.reduceMod, Int.reduceDiv, Int.reduceEq, Nat.reducePow, Nat.reduceMul, Nat.reduceLT, Nat.reduceLeDiff, Int.ofNat_zero, Int.natCast_zero, Int.natCast_one, Int.ofNat_eq_natCast, Int.natCast_nonneg, beq_self_eq_true, Option.isNone_none, Option.isNone_some, Bool.not_eq_true, List.append_nil, Option.bind_some, List.lookup_cons, List.contains_nil, List.contains_cons]
    rw [lc_maybe s _ _ _ rfl (fun _ => rfl) (fun _ => rfl)]
    simp only [x02, x9h, xa1, xa0, x9y, x9z, x9x, x33, x30, x2y, x2z, x32, x31, x52, x50, x4z, x51, x4y, x4w, x4x, xbh, xbm, xbi, xbf, xbg, xbe, xbj, xbl, xbk, xba, xbd, xbb, xbc, x7b, x7c, x7a, x7e, x7d, x78, x79, xb5, xb9, xb6, xb8, xb7, x00, x01, x8j, x8c, x18, x19, x1a, xb3, xb4, x0j, x0g, x0i, x0h, x8d, x8e, x8g, x8f, x82, x83, x84, xat, xar, xas, xal, xak, xap, xao, xan, xam, xeh, x07, x03, x04, x05, x06, x08, x09, x6j, x6c, x6d, x6e, x6f, x6g, x6h, x6i, x2q, x2p, x2r, x2s, xav, xaq, x77, x76, x3m, x3l, xa3, xa4, xab, xac, xad, xae, xaf, xag, xah, xai, xa5, xa6, xa7, xa8, xa9, xaa, xaj, x89, x8a, x8h, x8i, x9m, x9n, x9o, x9p, x9q, x9r, x9s, x6x, x6v, x6w, x20, x1v, x1w, x1y, x1x, x1z, x4v, x4t, x4u, x4q, x4r, x4s, x5b, x1b, x1i, x1h, x1g, x1d, x74, x75, x73, x6z, x6y, x72, x70, x71, x9e, x5k, x5l, x5m, x5n, x8x, x8y, x8z, x90, x91, x92, x93, x2v, x2t, x2u, xei, xej, xek, xel, x8w, x98, x99, xb1, xb2, xb0, xaz, x81, x80, x87, x88, x85, x86, xd1, xd0, x8t, x8s, x6r, x6n, x6p, x6o, x8b, x6k, x6l, x6m, x7z, x1c, x2b, x8v, x9f, x9v, x9w, x9u, x9t, x59, x5a, x8u, x97, x35, x34, x0o, x0a, x0b, x0d, x0c, x0e, x0p, x0q, x0r, x12, x0z, x10, x11, x5o, x5g, x9g, x9a, x9b, x9c, x9d, x0n, x0l, x0m, x36, xef, xeg, x4p, x4o, xax, xay, x53, x55, x54, xaw, xau, x3f, x3e, x3d, x3g, x8p, x8o, x8q, x8r, x7r, x7p, x7q, x7o, x7m, x7k, x7l, x7n, x7i, x7h, x7f, x7g, x14, x16, x17, x15, x13, x1f, x1e, x5j, x5h, x5i, x57, x58, x56, x27, x2a, x29, x28, x9k, x9j, x9l, x9i, x1j, x21, x22, x23, x26, x25, x24, x7v, x7w, x3n, x3h, x3i, x7j, x7s, x7t, x7u, x96, x95, x94, x5e, x5f, x5c, x3p, x3q, x3r, x3s, x3t, x3u, x3v, x3w, x3x, x4a, x4l, x49, x4b, x4c, x3j, x2o, x2j, x2d, x2i, x2m, x2n, x2c, x2h, x2g, x2f, x2e, x2k, x6s, x6u, x6t, x2x, x7y, x2w, x7x, x5u, x5r, x5q, x5v, x5s, x5p, x5t, x6a, x67, x66, x6b, x68, x65, x69, x5z, x5x, x5y, x5w, x60, x64, x63, x61, x62, xbn, xd2, xbt, xd8, xbo, xd3, xbr, xd6, xbp, xd4, xbq, xd5, xbs, xd7, xct, xe8, xcz, xee, xcu, xe9, xcx, xec, xcv, xea, xcw, xeb, xcy, xed, xbu, xd9, xc0, xdf, xbv, xda, xby, xdd, xbw, xdb, xbx, xdc, xbz, xde, xcf, xdu, xcl, xe0, xcg, xdv, xcj, xdy, xch, xdw, xci, xdx, xck, xdz, xc1, xdg, xc7, xdm, xc2, xdh, xc5, xdk, xc3, xdi, xc4, xdj, xc6, xdl, xc8, xdn, xce, xdt, xc9, xdo, xcc, xdr, xca, xdp, xcb, xdq, xcd, xds, xcm, xe1, xcs, xe7, xcn, xe2, xcq, xe5, xco, xe3, xcp, xe4, xcr, xe6, x8k, x8l, x8m, x8n, x0s, x0t, x0u, x0v, x0w, x0x, x0y, x3y, x4n, x41, x4e, x44, x4j, x47, x4g, x4m, x40, x4d, x43, x4i, x46, x4h, x3z, x42, x4f, x45, x4k, x48, x37, x3c, x38, x39, x3a, x3b, x1n, x1o, x1p, x1q, x1r, x1s, x1t, x1u, x1k, x1l, x1m, List.getElem?_cons_zero, List.getElem?_cons_succ, List.set_cons_zero, List.set_cons_succ, List.replicate, List.cons_append, List.nil_append, List.take_succ_cons, List.take_zero, List.getD_cons_zero, List.getD_cons_succ, List.map_cons, List.map_nil, if_true, if_false, Bool.true_and, Bool.and_true, Bool.false_and, Bool.and_false, Bool.true_or, Bool.or_true, Bool.false_or, Bool.or_false, Bool.not_true, Bool.not_false, reduceIte, Bool.false_eq_true, eq_self, Nat.sub_self, sc, noL, noLAll, Option.map_some, Int.toNat_natCast, Nat.reduceSub, Nat.reduceAdd, decide_true, decide_false, List.length_cons, List.length_nil, Int.reduceLT, Int.reduceLE, Int.reduceAdd, Int.reduceMul, Int.reduceSub, Int.reduceNeg, Int.reduceToNat, Int.reducePow, Int.reduceMod, Int.reduceDiv, Int.reduceEq, Nat.reducePow, Nat.reduceMul, Nat.reduceLT, Nat.reduceLeDiff, Int.ofNat_zero, Int.natCast_zero, Int.natCast_one, Int.ofNat_eq_natCast, Int.natCast_nonneg, beq_self_eq_true, Option.isNone_none, Option.isNone_some, Bool.not_eq_true, List.append_nil, Option.bind_some, List.lookup_cons, List.contains_nil, List.contains_cons, flagT, map_snd]
    rw [show (s.map fun x => PyData.bool (decide (x ≠ some false))) = (maybe s).map .bool from by unfold maybe; rw [List.map_map]; rfl]
    simp only [x02, x9h, xa1, xa0, x9y, x9z, x9x, x33, x30, x2y, x2z, x32, x31, x52, x50, x4z, x51, x4y, x4w, x4x, xbh, xbm, xbi, xbf, xbg, xbe, xbj, xbl, xbk, xba, xbd, xbb, xbc, x7b, x7c, x7a, x7e, x7d, x78, x79, xb5, xb9, xb6, xb8, xb7, x00, x01, x8j, x8c, x18, x19, x1a, xb3, xb4, x0j, x0g, x0i, x0h, x8d, x8e, x8g, x8f, x82, x83, x84, xat, xar, xas, xal, xak, xap, xao, xan, xam, xeh, x07, x03, x04, x05, x06, x08, x09, x6j, x6c, x6d, x6e, x6f, x6g, x6h, x6i, x2q, x2p, x2r, x2s, xav, xaq, x77, x76, x3m, x3l, xa3, xa4, xab, xac, xad, xae, xaf, xag, xah, xai, xa5, xa6, xa7, xa8, xa9, xaa, xaj, x89, x8a, x8h, x8i, x9m, x9n, x9o, x9p, x9q, x9r, x9s, x6x, x6v, x6w, x20, x1v, x1w, x1y, x1x, x1z, x4v, x4t, x4u, x4q, x4r, x4s, x5b, x1b, x1i, x1h, x1g, x1d, x74, x75, x73, x6z, x6y, x72, x70, x71, x9e, x5k, x5l, x5m, x5n, x8x, x8y, x8z, x90, x91, x92, x93, x2v, x2t, x2u, xei, xej, xek, xel, x8w, x98, x99, xb1, xb2, xb0, xaz, x81, x80, x87, x88, x85, x86, xd1, xd0, x8t, x8s, x6r, x6n, x6p, x6o, x8b, x6k, x6l, x6m, x7z, x1c, x2b, x8v, x9f, x9v, x9w, x9u, x9t, x59, x5a, x8u, x97, x35, x34, x0o, x0a, x0b, x0d, x0c, x0e, x0p, x0q, x0r, x12, x0z, x10, x11, x5o, x5g, x9g, x9a, x9b, x9c, x9d, x0n, x0l, x0m, x36, xef, xeg, x4p, x4o, xax, xay, x53, x55, x54, xaw, xau, x3f, x3e, x3d, x3g, x8p, x8o, x8q, x8r, x7r, x7p, x7q, x7o, x7m, x7k, x7l, x7n, x7i, x7h, x7f, x7g, x14, x16, x17, x15, x13, x1f, x1e, x5j, x5h, x5i, x57, x58, x56, x27, x2a, x29, x28, x9k, x9j, x9l, x9i, x1j, x21, x22, x23, x26, x25, x24, x7v, x7w, x3n, x3h, x3i, x7j, x7s, x7t, x7u, x96, x95, x94, x5e, x5f, x5c, x3p, x3q, x3r, x3s, x3t, x3u, x3v, x3w, x3x, x4a, x4l, x49, x4b, x4c, x3j, x2o, x2j, x2d, x2i, x2m, x2n, x2c, x2h, x2g, x2f, x2e, x2k, x6s, x6u, x6t, x2x, x7y, x2w, x7x, x5u, x5r, x5q, x5v, x5s, x5p, x5t, x6a, x67, x66, x6b, x68, x65, x69, x5z, x5x, x5y, x5w, x60, x64, x63, x61, x62, xbn, xd2, xbt, xd8, xbo, xd3, xbr, xd6, xbp, xd4, xbq, xd5, xbs, xd7, xct, xe8, xcz, xee, xcu, xe9, xcx, xec, xcv, xea, xcw, xeb, xcy, xed, xbu, xd9, xc0, xdf, xbv, xda, xby, xdd, xbw, xdb, xbx, xdc, xbz, xde, xcf, xdu, xcl, xe0, xcg, xdv, xcj, xdy, xch, xdw, xci, xdx, xck, xdz, xc1, xdg, xc7, xdm, xc2, xdh, xc5, xdk, xc3, xdi, xc4, xdj, xc6, xdl, xc8, xdn, xce, xdt, xc9, xdo, xcc, xdr, xca, xdp, xcb, xdq, xcd, xds, xcm, xe1, xcs, xe7, xcn, xe2, xcq, xe5, xco, xe3, xcp, xe4, xcr, xe6, x8k, x8l, x8m, x8n, x0s, x0t, x0u, x0v, x0w, x0x, x0y, x3y, x4n, x41, x4e, x44, x4j, x47, x4g, x4m, x40, x4d, x43, x4i, x46, x4h, x3z, x42, x4f, x45, x4k, x48, x37, x3c, x38, x39, x3a, x3b, x1n, x1o, x1p, x1q, x1r, x1s, x1t, x1u, x1k, x1l, x1m, List.getElem?_cons_zero, List.getElem?_cons_succ, List.set_cons_zero, List.set_cons_succ, List.replicate, List.cons_append, List.nil_append, List.take_succ_cons, List.take_zero, List.getD_cons_zero, List.getD_cons_succ, List.map_cons, List.map_nil, if_true, if_false, Bool.true_and, Bool.and_true, Bool.false_and, Bool.and_false, Bool.true_or, Bool.or_true, Bool.false_or, Bool.or_false, Bool.not_true, Bool.not_false, reduceIte, Bool.false_eq_true, eq_self, Nat.sub_self, sc, noL, noLAll, Option.map_some, Int.toNat_natCast, Nat.reduceSub, Nat.reduceAdd, decide_true, decide_false, List.length_cons, List.length_nil, Int.reduceLT, Int.reduceLE, Int.reduceAdd, Int.reduceMul, Int.reduceSub, Int.reduceNeg, Int.reduceToNat, Int.reducePow, Int.reduceMod, Int.reduceDiv, Int.reduceEq, Nat.reducePow, Nat.reduceMul, Nat.reduceLT, Nat.reduceLeDiff, Int.ofNat_zero, Int.natCast_zero, Int.natCast_one, Int.ofNat_eq_natCast, Int.natCast_nonneg, beq_self_eq_true, Option.isNone_none, Option.isNone_some, Bool.not_eq_true, List.append_nil, Option.bind_some, List.lookup_cons, List.contains_nil, List.contains_cons, L]
theorem r_lost (p : Part) (s : Sheet) (w : List Bool) (h : p.ok s.length) (h2 : w.length = s.length) : ∃ f, m_lost p [.ob false (obC p) (obFs p), .v false (dS s), .v false (dB w)] = some (.v f (.bool (p.lost s w)), [.ob false (obC p) (obFs p), .v false (dS s), .v false (dB w)]) := by
  cases p with
  | inn t =>
    have ht : t < s.length := h t (List.mem_cons_self ..)
    have ht2 : t < w.length := by rw [h2]; exact ht
    show ∃ f, f_In_lost _ = _
    unfold f_In_lost b_In_lost obC obFs Part.lost
    by_cases c : s[t] = some false
    · refine ⟨true, ?_⟩
      simp only [x02, x9h, xa1, xa0, x9y, x9z, x9x, x33, x30, x2y, x2z, x32, x31, x52, x50, x4z, x51, x4y, x4w, x4x, xbh, xbm, xbi, xbf, xbg, xbe, xbj, xbl, xbk, xba, xbd, xbb, xbc, x7b, x7c, x7a, x7e, x7d, x78, x79, xb5, xb9, xb6, xb8, xb7, x00, x01, x8j, x8c, x18, x19, x1a, xb3, xb4, x0j, x0g, x0i, x0h, x8d, x8e, x8g, x8f, x82, x83, x84, xat, xar, xas, xal, xak, xap, xao, xan, xam, xeh, x07, x03, x04, x05, x06, x08, x09, x6j, x6c, x6d, x6e, x6f, x6g, x6h, x6i, x2q, x2p, x2r, x2s, xav, xaq, x77, x76, x3m, x3l, xa3, xa4, xab, xac, xad, xae, xaf, xag, xah, xai, xa5, xa6, xa7, xa8, xa9, xaa, xaj, x89, x8a, x8h, x8i, x9m, x9n, x9o, x9p, x9q, x9r, x9s, x6x, x6v, x6w, x20, x1v, x1w, x1y, x1x, x1z, x4v, x4t, x4u, x4q, x4r, x4s, x5b, x1b, x1i, x1h, x1g, x1d, x74, x75, x73, x6z, x6y, x72, x70, x71, x9e, x5k, x5l, x5m, x5n, x8x, x8y, x8z, x90, x91, x92, x93, x2v, x2t, x2u, xei, xej, xek, xel, x8w, x98, x99, xb1, xb2, xb0, xaz, x81, x80, x87, x88, x85, x86, xd1, xd0, x8t, x8s, x6r, x6n, x6p, x6o, x8b, x6k, x6l, x6m, x7z, x1c, x2b, x8v, x9f, x9v, x9w, x9u, x9t, x59, x5a, x8u, x97, x35, x34, x0o, x0a, x0b, x0d, x0c, x0e, x0p, x0q, x0r, x12, x0z, x10, x11, x5o, x5g, x9g, x9a, x9b, x9c, x9d, x0n, x0l, x0m, x36, xef, xeg, x4p, x4o, xax, xay, x53, x55, x54, xaw, xau, x3f, x3e, x3d, x3g, x8p, x8o, x8q, x8r, x7r, x7p, x7q, x7o, x7m, x7k, x7l, x7n, x7i, x7h, x7f, x7g, x14, x16, x17, x15, x13, x1f, x1e, x5j, x5h, x5i, x57, x58, x56, x27, x2a, x29, x28, x9k, x9j, x9l, x9i, x1j, x21, x22, x23, x26, x25, x24, x7v, x7w, x3n, x3h, x3i, x7j, x7s, x7t, x7u, x96, x95, x94, x5e, x5f, x5c, x3p, x3q, x3r, x3s, x3t, x3u, x3v, x3w, x3x, x4a, x4l, x49, x4b, x4c, x3j, x2o, x2j, x2d, x2i, x2m, x2n, x2c, x2h, x2g, x2f, x2e, x2k, x6s, x6u, x6t, x2x, x7y, x2w, x7x, x5u, x5r, x5q, x5v, x5s, x5p, x5t, x6a, x67, x66, x6b, x68, x65, x69, x5z, x5x, x5y, x5w, x60, x64, x63, x61, x62, xbn, xd2, xbt, xd8, xbo, xd3, xbr, xd6, xbp, xd4, xbq, xd5, xbs, xd7, xct, xe8, xcz, xee, xcu, xe9, xcx, xec, xcv, xea, xcw, xeb, xcy, xed, xbu, xd9, xc0, xdf, xbv, xda, xby, xdd, xbw, xdb, xbx, xdc, xbz, xde, xcf, xdu, xcl, xe0, xcg, xdv, xcj, xdy, xch, xdw, xci, xdx, xck, xdz, xc1, xdg, xc7, xdm, xc2, xdh, xc5, xdk, xc3, xdi, xc4, xdj, xc6, xdl, xc8, xdn, xce, xdt, xc9, xdo, xcc, xdr, xca, xdp, xcb, xdq, xcd, xds, xcm, xe1, xcs, xe7, xcn, xe2, xcq, xe5, xco, xe3, xcp, xe4, xcr, xe6, x8k, x8l, x8m, x8n, x0s, x0t, x0u, x0v, x0w, x0x, x0y, x3y, x4n, x41, x4e, x44, x4j, x47, x4g, x4m, x40, x4d, x43, x4i, x46, x4h, x3z, x42, x4f, x45, x4k, x48, x37, x3c, x38, x39, x3a, x3b, x1n, x1o, x1p, x1q, x1r, x1s, x1t, x1u, x1k, x1l, x1m, List.getElem?_cons_zero, List.getElem?_cons_succ, List.set_cons_zero, List.set_cons_succ, List.replicate, List.cons_append, List.nil_append, List.take_succ_cons, List.take_zero, List.getD_cons_zero, List.getD_cons_succ, List.map_cons, List.map_nil, if_true, if_false, Bool.true_and, Bool.and_true, Bool.false_and, Bool.and_false, Bool.true_or, Bool.or_true, Bool.false_or, Bool.or_false, Bool.not_true, Bool.not_false, reduceIte, Bool.false_eq_true, eq_self, Nat.sub_self, sc, noL, noLAll, Option.map_some, Int.toNat_natCast, Nat.reduceSub, Nat.reduceAdd, decide_true, decide_false, List.length_cons, List.length_nil, Int.reduceLT, Int.reduceLE, Int.reduceAdd, Int.reduceMul, Int.reduceSub, Int.reduceNeg, Int.reduceToNat, Int.reducePow, Int.reduceMod, Int.reduceDiv, Int.reduceEq, Nat.reducePow, Nat.reduceMul, Nat.reduceLT, Nat.reduceLeDiff, Int.ofNat_zero, Int.natCast_zero, Int.natCast_one, Int.ofNat_eq_natCast, Int.natCast_nonneg, beq_self_eq_true, Option.isNone_none, Option.isNone_some, Bool.not_eq_true, List.append_nil, Option.bind_some, List.lookup_cons, List.contains_nil, List.contains_cons, atI_map _ _ _ ht, atI_map _ _ _ ht2, getD_ob _ _ ht, getD_of_lt _ _ ht2, is_ob, c]
    · refine ⟨false, ?_⟩
      simp only [x02, x9h, xa1, xa0, x9y, x9z, x9x, x33, x30, x2y, x2z, x32, x31, x52, x50, x4z, x51, x4y, x4w, x4x, xbh, xbm, xbi, xbf, xbg, xbe, xbj, xbl, xbk, xba, xbd, xbb, xbc, x7b, x7c, x7a, x7e, x7d, x78, x79, xb5, xb9, xb6, xb8, xb7, x00, x01, x8j, x8c, x18, x19, x1a, xb3, xb4, x0j, x0g, x0i, x0h, x8d, x8e, x8g, x8f, x82, x83, x84, xat, xar, xas, xal, xak, xap, xao, xan, xam, xeh, x07, x03, x04, x05, x06, x08, x09, x6j, x6c, x6d, x6e, x6f, x6g, x6h, x6i, x2q, x2p, x2r, x2s, xav, xaq, x77, x76, x3m, x3l, xa3, xa4, xab, xac, xad, xae, xaf, xag, xah, xai, xa5, xa6, xa7, xa8, xa9, xaa, xaj, x89, x8a, x8h, x8i, x9m, x9n, x9o, x9p, x9q, x9r, x9s, x6x, x6v, x6w, x20, x1v, x1w, x1y, x1x, x1z, x4v, x4t, x4u, x4q, x4r, x4s, x5b, x1b, x1i, x1h, x1g, x1d, x74, x75, x73, x6z, x6y, x72, x70, x71, x9e, x5k, x5l, x5m, x5n, x8x, x8y, x8z, x90, x91, x92, x93, x2v, x2t, x2u, xei, xej, xek, xel, x8w, x98, x99, xb1, xb2, xb0, xaz, x81, x80, x87, x88, x85, x86, xd1, xd0, x8t, x8s, x6r, x6n, x6p, x6o, x8b, x6k, x6l, x6m, x7z, x1c, x2b, x8v, x9f, x9v, x9w, x9u, x9t, x59, x5a, x8u, x97, x35, x34, x0o, x0a, x0b, x0d, x0c, x0e, x0p, x0q, x0r, x12, x0z, x10, x11, x5o, x5g, x9g, x9a, x9b, x9c, x9d, x0n, x0l, x0m, x36, xef, xeg, x4p, x4o, xax, xay, x53, x55, x54, xaw, xau, x3f, x3e, x3d, x3g, x8p, x8o, x8q, x8r, x7r, x7p, x7q, x7o, x7m, x7k, x7l, x7n, x7i, x7h, x7f, x7g, x14, x16, x17, x15, x13, x1f, x1e, x5j, x5h, x5i, x57, x58, x56, x27, x2a, x29, x28, x9k, x9j, x9l, x9i, x1j, x21, x22, x23, x26, x25, x24, x7v, x7w, x3n, x3h, x3i, x7j, x7s, x7t, x7u, x96, x95, x94, x5e, x5f, x5c, x3p, x3q, x3r, x3s, x3t, x3u, x3v, x3w, x3x, x4a, x4l, x49, x4b, x4c, x3j, x2o, x2j, x2d, x2i, x2m, x2n, x2c, x2h, x2g, x2f, x2e, x2k, x6s, x6u, x6t, x2x, x7y, x2w, x7x, x5u, x5r, x5q, x5v, x5s, x5p, x5t, x6a, x67, x66, x6b, x68, x65, x69, x5z, x5x, x5y, x5w, x60, x64, x63, x61, x62, xbn, xd2, xbt, xd8, xbo, xd3, xbr, xd6, xbp, xd4, xbq, xd5, xbs, xd7, xct, xe8, xcz, xee, xcu, xe9, xcx, xec, xcv, xea, xcw, xeb, xcy, xed, xbu, xd9, xc0, xdf, xbv, xda, xby, xdd, xbw, xdb, xbx, xdc, xbz, xde, xcf, xdu, xcl, xe0, xcg, xdv, xcj, xdy, xch, xdw, xci, xdx, xck, xdz, xc1, xdg, xc7, xdm, xc2, xdh, xc5, xdk, xc3, xdi, xc4, xdj, xc6, xdl, xc8, xdn, xce, xdt, xc9, xdo, xcc, xdr, xca, xdp, xcb, xdq, xcd, xds, xcm, xe1, xcs, xe7, xcn, xe2, xcq, xe5, xco, xe3, xcp, xe4, xcr, xe6, x8k, x8l, x8m, x8n, x0s, x0t, x0u, x0v, x0w, x0x, x0y, x3y, x4n, x41, x4e, x44, x4j, x47, x4g, x4m, x40, x4d, x43, x4i, x46, x4h, x3z, x42, x4f, x45, x4k, x48, x37, x3c, x38, x39, x3a, x3b, x1n, x1o, x1p, x1q, x1r, x1s, x1t, x1u, x1k, x1l, x1m, List.getElem?_cons_zero, List.getElem?_cons_succ, List.set_cons_zero, List.set_cons_succ, List.replicate, List.cons_append, List.nil_append, List.take_succ_cons, List.take_zero, List.getD_cons_zero, List.getD_cons_succ, List.map_cons, List.map_nil, if_true, if_false, Bool.true_and, Bool.and_true, Bool.false_and, Bool.and_false, Bool.true_or, Bool.or_true, Bool.false_or, Bool.or_false, Bool.not_true, Bool.not_false, reduceIte, Bool.false_eq_true, eq_self, Nat.sub_self, sc, noL, noLAll, Option.map_some, Int.toNat_natCast, Nat.reduceSub, Nat.reduceAdd, decide_true, decide_false, List.length_cons, List.length_nil, Int.reduceLT, Int.reduceLE, Int.reduceAdd, Int.reduceMul, Int.reduceSub, Int.reduceNeg, Int.reduceToNat, Int.reducePow, Int.reduceMod, Int.reduceDiv, Int.reduceEq, Nat.reducePow, Nat.reduceMul, Nat.reduceLT, Nat.reduceLeDiff, Int.ofNat_zero, Int.natCast_zero, Int.natCast_one, Int.ofNat_eq_natCast, Int.natCast_nonneg, beq_self_eq_true, Option.isNone_none, Option.isNone_some, Bool.not_eq_true, List.append_nil, Option.bind_some, List.lookup_cons, List.contains_nil, List.contains_cons, atI_map _ _ _ ht, atI_map _ _ _ ht2, getD_ob _ _ ht, getD_of_lt _ _ ht2, is_ob, c]
  | out t =>
    have ht : t < s.length := h t (List.mem_cons_self ..)
    refine ⟨true, ?_⟩
    show f_Out_lost _ = _
    unfold f_Out_lost b_Out_lost obC obFs Part.lost
    simp only [x02, x9h, xa1, xa0, x9y, x9z, x9x, x33, x30, x2y, x2z, x32, x31, x52, x50, x4z, x51, x4y, x4w, x4x, xbh, xbm, xbi, xbf, xbg, xbe, xbj, xbl, xbk, xba, xbd, xbb, xbc, x7b, x7c, x7a, x7e, x7d, x78, x79, xb5, xb9, xb6, xb8, xb7, x00, x01, x8j, x8c, x18, x19, x1a, xb3, xb4, x0j, x0g, x0i, x0h, x8d, x8e, x8g, x8f, x82, x83, x84, xat, xar, xas, xal, xak, xap, xao, xan, xam, xeh, x07, x03, x04, x05, x06, x08, x09, x6j, x6c, x6d, x6e, x6f, x6g, x6h, x6i, x2q, x2p, x2r, x2s, xav, xaq, x77, x76, x3m, x3l, xa3, xa4, xab, xac, xad, xae, xaf, xag, xah, xai, xa5, xa6, xa7, xa8, xa9, xaa, xaj, x89, x8a, x8h, x8i, x9m, x9n, x9o, x9p, x9q, x9r, x9s, x6x, x6v, x6w, x20, x1v, x1w, x1y, x1x, x1z, x4v, x4t, x4u, x4q, x4r, x4s, x5b, x1b, x1i, x1h, x1g, x1d, x74, x75, x73, x6z, x6y, x72, x70, x71, x9e, x5k, x5l, x5m, x5n, x8x, x8y, x8z, x90, x91, x92, x93, x2v, x2t, x2u, xei, xej, xek, xel, x8w, x98, x99, xb1, xb2, xb0, xaz, x81, x80, x87, x88, x85, x86, xd1, xd0, x8t, x8s, x6r, x6n, x6p, x6o, x8b, x6k, x6l, x6m, x7z, x1c, x2b, x8v, x9f, x9v, x9w, x9u, x9t, x59, x5a, x8u, x97, x35, x34, x0o, x0a, x0b, x0d, x0c, x0e, x0p, x0q, x0r, x12, x0z, x10, x11, x5o, x5g, x9g, x9a, x9b, x9c, x9d, x0n, x0l, x0m, x36, xef, xeg, x4p, x4o, xax, xay, x53, x55, x54, xaw, xau, x3f, x3e, x3d, x3g, x8p, x8o, x8q, x8r, x7r, x7p, x7q, x7o, x7m, x7k, x7l, x7n, x7i, x7h, x7f, x7g, x14, x16, x17, x15, x13, x1f, x1e, x5j, x5h, x5i, x57, x58, x56, x27, x2a, x29, x28, x9k, x9j, x9l, x9i, x1j, x21, x22, x23, x26, x25, x24, x7v, x7w, x3n, x3h, x3i, x7j, x7s, x7t, x7u, x96, x95, x94, x5e, x5f, x5c, x3p, x3q, x3r, x3s, x3t, x3u, x3v, x3w, x3x, x4a, x4l, x49, x4b, x4c, x3j, x2o, x2j, x2d, x2i, x2m, x2n, x2c, x2h, x2g, x2f, x2e, x2k, x6s, x6u, x6t, x2x, x7y, x2w, x7x, x5u, x5r, x5q, x5v, x5s, x5p, x5t, x6a, x67, x66, x6b, x68, x65, x69, x5z, x5x, x5y, x5w, x60, x64, x63, x61, x62, xbn, xd2, xbt, xd8, xbo, xd3, xbr, xd6, xbp, xd4, xbq, xd5, xbs, xd7, xct, xe8, xcz, xee, xcu, xe9, xcx, xec, xcv, xea, xcw, xeb, xcy, xed, xbu, xd9, xc0, xdf, xbv, xda, xby, xdd, xbw, xdb, xbx, xdc, xbz, xde, xcf, xdu, xcl, xe0, xcg, xdv, xcj, xdy, xch, xdw, xci, xdx, xck, xdz, xc1, xdg, xc7, xdm, xc2, xdh, xc5, xdk, xc3, xdi, xc4, xdj, xc6, xdl, xc8, xdn, xce, xdt, xc9, xdo, xcc, xdr, xca, xdp, xcb, xdq, xcd, xds, xcm, xe1, xcs, xe7, xcn, xe2, xcq, xe5, xco, xe3, xcp, xe4, xcr, xe6, x8k, x8l, x8m, x8n, x0s, x0t, x0u, x0v, x0w, x0x, x0y, x3y, x4n, x41, x4e, x44, x4j, x47, x4g, x4m, x40, x4d, x43, x4i, x46, x4h, x3z, x42, x4f, x45, x4k, x48, x37, x3c, x38, x39, x3a, x3b, x1n, x1o, x1p, x1q, x1r, x1s, x1t, x1u, x1k, x1l, x1m, List.getElem?_cons_zero, List.getElem?_cons_succ, List.set_cons_zero, List.set_cons_succ, List.replicate, List.cons_append, List.nil_append, List.take_succ_cons, List.take_zero, List.getD_cons_zero, List.getD_cons_succ, List.map_cons, List.map_nil, if_true, if_false, Bool.true_and, Bool.and_true, Bool.false_and, Bool.and_false, Bool.true_or, Bool.or_true, Bool.false_or, Bool.or_false, Bool.not_true, Bool.not_false, reduceIte, Bool.false_eq_true, eq_self, Nat.sub_self, sc, noL, noLAll, Option.map_some, Int.toNat_natCast, Nat.reduceSub, Nat.reduceAdd, decide_true, decide_false, List.length_cons, List.length_nil, Int.reduceLT, Int.reduceLE, Int.reduceAdd, Int.reduceMul, Int.reduceSub, Int.reduceNeg, Int.reduceToNat, Int.reducePow, Int.reduceMod, Int.reduceDiv, Int.reduceEq, Nat.reducePow, Nat.reduceMul, Nat.reduceLT, Nat.reduceLeDiff, Int.ofNat_zero, Int.natCast_zero, Int.natCast_one, Int.ofNat_eq_natCast, Int.natCast_nonneg, beq_self_eq_true, Option.isNone_none, Option.isNone_some, Bool.not_eq_true, List.append_nil, Option.bind_some, List.lookup_cons, List.contains_nil, List.contains_cons, atI_map _ _ _ ht, getD_ob _ _ ht, is_ob]
  | least k its =>
    refine ⟨true, ?_⟩
    show f_Least_lost _ = _
    have L := r_worth_of its (leftOf s w) (by rw [leftOf_len _ _ h2]; exact its_lt h)
    unfold f_Least_lost b_Least_lost obC obFs Part.lost
    simp only [x02, x9h, xa1, xa0, x9y, x9z, x9x, x33, x30, x2y, x2z, x32, x31, x52, x50, x4z, x51, x4y, x4w, x4x, xbh, xbm, xbi, xbf, xbg, xbe, xbj, xbl, xbk, xba, xbd, xbb, xbc, x7b, x7c, x7a, x7e, x7d, x78, x79, xb5, xb9, xb6, xb8, xb7, x00, x01, x8j, x8c, x18, x19, x1a, xb3, xb4, x0j, x0g, x0i, x0h, x8d, x8e, x8g, x8f, x82, x83, x84, xat, xar, xas, xal, xak, xap, xao, xan, xam, xeh, x07, x03, x04, x05, x06, x08, x09, x6j, x6c, x6d, x6e, x6f, x6g, x6h, x6i, x2q, x2p, x2r, x2s, xav, xaq, x77, x76, x3m, x3l, xa3, xa4, xab, xac, xad, xae, xaf, xag, xah, xai, xa5, xa6, xa7, xa8, xa9, xaa, xaj, x89, x8a, x8h, x8i, x9m, x9n, x9o, x9p, x9q, x9r, x9s, x6x, x6v, x6w, x20, x1v, x1w, x1y, x1x, x1z, x4v, x4t, x4u, x4q, x4r, x4s, x5b, x1b, x1i, x1h, x1g, x1d, x74, x75, x73, x6z, x6y, x72, x70, x71, x9e, x5k, x5l, x5m, x5n, x8x, x8y, x8z, x90, x91, x92, x93, x2v, x2t, x2u, xei, xej, xek, xel, x8w, x98, x99, xb1, xb2, xb0, xaz, x81, x80, x87, x88, x85, x86, xd1, xd0, x8t, x8s, x6r, x6n, x6p, x6o, x8b, x6k, x6l, x6m, x7z, x1c, x2b, x8v, x9f, x9v, x9w, x9u, x9t, x59, x5a, x8u, x97, x35, x34, x0o, x0a, x0b, x0d, x0c, x0e, x0p, x0q, x0r, x12, x0z, x10, x11, x5o, x5g, x9g, x9a, x9b, x9c, x9d, x0n, x0l, x0m, x36, xef, xeg, x4p, x4o, xax, xay, x53, x55, x54, xaw, xau, x3f, x3e, x3d, x3g, x8p, x8o, x8q, x8r, x7r, x7p, x7q, x7o, x7m, x7k, x7l, x7n, x7i, x7h, x7f, x7g, x14, x16, x17, x15, x13, x1f, x1e, x5j, x5h, x5i, x57, x58, x56, x27, x2a, x29, x28, x9k, x9j, x9l, x9i, x1j, x21, x22, x23, x26, x25, x24, x7v, x7w, x3n, x3h, x3i, x7j, x7s, x7t, x7u, x96, x95, x94, x5e, x5f, x5c, x3p, x3q, x3r, x3s, x3t, x3u, x3v, x3w, x3x, x4a, x4l, x49, x4b, x4c, x3j, x2o, x2j, x2d, x2i, x2m, x2n, x2c, x2h, x2g, x2f, x2e, x2k, x6s, x6u, x6t, x2x, x7y, x2w, x7x, x5u, x5r, x5q, x5v, x5s, x5p, x5t, x6a, x67, x66, x6b, x68, x65, x69, x5z, x5x, x5y, x5w, x60, x64, x63, x61, x62, xbn, xd2, xbt, xd8, xbo, xd3, xbr, xd6, xbp, xd4, xbq, xd5, xbs, xd7, xct, xe8, xcz, xee, xcu, xe9, xcx, xec, xcv, xea, xcw, xeb, xcy, xed, xbu, xd9, xc0, xdf, xbv, xda, xby, xdd, xbw, xdb, xbx, xdc, xbz, xde, xcf, xdu, xcl, xe0, xcg, xdv, xcj, xdy, xch, xdw, xci, xdx, xck, xdz, xc1, xdg, xc7, xdm, xc2, xdh, xc5, xdk, xc3, xdi, xc4, xdj, xc6, xdl, xc8, xdn, xce, xdt, xc9, xdo, xcc, xdr, xca, xdp, xcb, xdq, xcd, xds, xcm, xe1, xcs, xe7, xcn, xe2, xcq, xe5, xco, xe3, xcp, xe4, xcr, xe6, x8k, x8l, x8m, x8n, x0s, x0t, x0u, x0v, x0w, x0x, x0y, x3y, x4n, x41, x4e, x44, x4j, x47, x4g, x4m, x40, x4d, x43, x4i, x46, x4h, x3z, x42, x4f, x45, x4k, x48, x37, x3c, x38, x39, x3a, x3b, x1n, x1o, x1p, x1q, x1r, x1s, x1t, x1u, x1k, x1l, x1m, List.getElem?_cons_zero, List.getElem?_cons_succ, List.set_cons_zero, List.set_cons_succ, List.replicate, List.cons_append, List.nil_append, List.take_succ_cons, List.take_zero, List.getD_cons_zero, List.getD_cons_succ, List.map_cons, List.map_nil, if_true, if_false, Bool.true_and, Bool.and_true, Bool.false_and, Bool.and_false, Bool.true_or, Bool.or_true, Bool.false_or, Bool.or_false, Bool.not_true, Bool.not_false, reduceIte, Bool.false_eq_true, eq_self, Nat.sub_self, sc, noL, noLAll, Option.map_some, Int.toNat_natCast, Nat.reduceSub, Nat.reduceAdd, decide_true, decide_false, List.length_cons, List.length_nil, Int.reduceLT, Int.reduceLE, Int.reduceAdd, Int.reduceMul, Int.reduceSub, Int.reduceNeg, Int.reduceToNat, Int.reducePow, Int.reduceMod, Int.reduceDiv, Int.reduceEq, Nat.reducePow, Nat.reduceMul, Nat.reduceLT, Nat.reduceLeDiff, Int.ofNat_zero, Int.natCast_zero, Int.natCast_one, Int.ofNat_eq_natCast, Int.natCast_nonneg, beq_self_eq_true, Option.isNone_none, Option.isNone_some, Bool.not_eq_true, List.append_nil, Option.bind_some, List.lookup_cons, List.contains_nil, List.contains_cons]
    rw [show zipD (s.map dOB) (w.map PyData.bool) = (s.zip w).map (fun p => PyData.tuple [dOB p.1, .bool p.2]) from by
      unfold zipD; rw [List.zipWith_map, List.zip, List.map_zipWith]]
    rw [lcLoop_map1 (b := true) (g := fun p : Option Bool × Bool => PyData.bool (decide (p.1 ≠ some false) && !p.2)) (h := fun x _ => by
      obtain ⟨x, g⟩ := x
      by_cases c : x = some false
      · simp only [x02, x9h, xa1, xa0, x9y, x9z, x9x, x33, x30, x2y, x2z, x32, x31, x52, x50, x4z, x51, x4y, x4w, x4x, xbh, xbm, xbi, xbf, xbg, xbe, xbj, xbl, xbk, xba, xbd, xbb, xbc, x7b, x7c, x7a, x7e, x7d, x78, x79, xb5, xb9, xb6, xb8, xb7, x00, x01, x8j, x8c, x18, x19, x1a, xb3, xb4, x0j, x0g, x0i, x0h, x8d, x8e, x8g, x8f, x82, x83, x84, xat, xar, xas, xal, xak, xap, xao, xan, xam, xeh, x07, x03, x04, x05, x06, x08, x09, x6j, x6c, x6d, x6e, x6f, x6g, x6h, x6i, x2q, x2p, x2r, x2s, xav, xaq, x77, x76, x3m, x3l, xa3, xa4, xab, xac, xad, xae, xaf, xag, xah, xai, xa5, xa6, xa7, xa8, xa9, xaa, xaj, x89, x8a, x8h, x8i, x9m, x9n, x9o, x9p, x9q, x9r, x9s, x6x, x6v, x6w, x20, x1v, x1w, x1y, x1x, x1z, x4v, x4t, x4u, x4q, x4r, x4s, x5b, x1b, x1i, x1h, x1g, x1d, x74, x75, x73, x6z, x6y, x72, x70, x71, x9e, x5k, x5l, x5m, x5n, x8x, x8y, x8z, x90, x91, x92, x93, x2v, x2t, x2u, xei, xej, xek, xel, x8w, x98, x99, xb1, xb2, xb0, xaz, x81, x80, x87, x88, x85, x86, xd1, xd0, x8t, x8s, x6r, x6n, x6p, x6o, x8b, x6k, x6l, x6m, x7z, x1c, x2b, x8v, x9f, x9v, x9w, x9u, x9t, x59, x5a, x8u, x97, x35, x34, x0o, x0a, x0b, x0d, x0c, x0e, x0p, x0q, x0r, x12, x0z, x10, x11, x5o, x5g, x9g, x9a, x9b, x9c, x9d, x0n, x0l, x0m, x36, xef, xeg, x4p, x4o, xax, xay, x53, x55, x54, xaw, xau, x3f, x3e, x3d, x3g, x8p, x8o, x8q, x8r, x7r, x7p, x7q, x7o, x7m, x7k, x7l, x7n, x7i, x7h, x7f, x7g, x14, x16, x17, x15, x13, x1f, x1e, x5j, x5h, x5i, x57, x58, x56, x27, x2a, x29, x28, x9k, x9j, x9l, x9i, x1j, x21, x22, x23, x26, x25, x24, x7v, x7w, x3n, x3h, x3i, x7j, x7s, x7t, x7u, x96, x95, x94, x5e, x5f, x5c, x3p, x3q, x3r, x3s, x3t, x3u, x3v, x3w, x3x, x4a, x4l, x49, x4b, x4c, x3j, x2o, x2j, x2d, x2i, x2m, x2n, x2c, x2h, x2g, x2f, x2e, x2k, x6s, x6u, x6t, x2x, x7y, x2w, x7x, x5u, x5r, x5q, x5v, x5s, x5p, x5t, x6a, x67, x66, x6b, x68, x65, x69, x5z, x5x, x5y, x5w, x60, x64, x63, x61, x62, xbn, xd2, xbt, xd8, xbo, xd3, xbr, xd6, xbp, xd4, xbq, xd5, xbs, xd7, xct, xe8, xcz, xee, xcu, xe9, xcx, xec, xcv, xea, xcw, xeb, xcy, xed, xbu, xd9, xc0, xdf, xbv, xda, xby, xdd, xbw, xdb, xbx, xdc, xbz, xde, xcf, xdu, xcl, xe0, xcg, xdv, xcj, xdy, xch, xdw, xci, xdx, xck, xdz, xc1, xdg, xc7, xdm, xc2, xdh, xc5, xdk, xc3, xdi, xc4, xdj, xc6, xdl, xc8, xdn, xce, xdt, xc9, xdo, xcc, xdr, xca, xdp, xcb, xdq, xcd, xds, xcm, xe1, xcs, xe7, xcn, xe2, xcq, xe5, xco, xe3, xcp, xe4, xcr, xe6, x8k, x8l, x8m, x8n, x0s, x0t, x0u, x0v, x0w, x0x, x0y, x3y, x4n, x41, x4e, x44, x4j, x47, x4g, x4m, x40, x4d, x43, x4i, x46, x4h, x3z, x42, x4f, x45, x4k, x48, x37, x3c, x38, x39, x3a, x3b, x1n, x1o, x1p, x1q, x1r, x1s, x1t, x1u, x1k, x1l, x1m, List.getElem?_cons_zero, List.getElem?_cons_succ, List.set_cons_zero, List.set_cons_succ, List.replicate, List.cons_append, List.nil_append, List.take_succ_cons, List.take_zero, List.getD_cons_zero, List.getD_cons_succ, List.map_cons, List.map_nil, if_true, if_false, Bool.true_and, Bool.and_true, Bool.false_and, Bool.and_false, Bool.true_or, Bool.or_true, Bool.false_or, Bool.or_false, Bool.not_true, Bool.not_false, reduceIte, Bool.false_eq_true, eq_self, Nat.sub_self, sc, noL, noLAll, Option.map_some, Int.toNat_natCast, Nat.reduceSub, Nat.reduceAdd, decide_true, decide_false, List.length_cons, List.length_nil, Int.reduceLT, Int.reduceLE, Int.reduceAdd, Int.reduceMul, Int.reduceSub, Int.reduceNeg, Int.reduceToNat, Int.reducePow, Int.reduceMod, Int.reduceDiv, Int.reduceEq, Nat.reducePow, Nat.reduceMul, Nat.reduceLT, Nat.reduceLeDiff, Int.ofNat_zero, Int.natCast_zero, Int.natCast_one, Int.ofNat_eq_natCast, Int.natCast_nonneg, beq_self_eq_true, Option.isNone_none, Option.isNone_some, Bool.not_eq_true, List.append_nil, Option.bind_some, List.lookup_cons, List.contains_nil, List.contains_cons, isn_ob, c, ne_eq, not_true_eq_false]
      · simp only [x02, x9h, xa1, xa0, x9y, x9z, x9x, x33, x30, x2y, x2z, x32, x31, x52, x50, x4z, x51, x4y, x4w, x4x, xbh, xbm, xbi, xbf, xbg, xbe, xbj, xbl, xbk, xba, xbd, xbb, xbc, x7b, x7c, x7a, x7e, x7d, x78, x79, xb5, xb9, xb6, xb8, xb7, x00, x01, x8j, x8c, x18, x19, x1a, xb3, xb4, x0j, x0g, x0i, x0h, x8d, x8e, x8g, x8f, x82, x83, x84, xat, xar, xas, xal, xak, xap, xao, xan, xam, xeh, x07, x03, x04, x05, x06, x08, x09, x6j, x6c, x6d, x6e, x6f, x6g, x6h, x6i, x2q, x2p, x2r, x2s, xav, xaq, x77, x76, x3m, x3l, xa3, xa4, xab, xac, xad, xae, xaf, xag, xah, xai, xa5, xa6, xa7, xa8, xa9, xaa, xaj, x89, x8a, x8h, x8i, x9m, x9n, x9o, x9p, x9q, x9r, x9s, x6x, x6v, x6w, x20, x1v, x1w, x1y, x1x, x1z, x4v, x4t, x4u, x4q, x4r, x4s, x5b, x1b, x1i, x1h, x1g, x1d, x74, x75, x73, x6z, x6y, x72, x70, x71, x9e, x5k, x5l, x5m, x5n, x8x, x8y, x8z, x90, x91, x92, x93, x2v, x2t, x2u, xei, xej, xek, xel, x8w, x98, x99, xb1, xb2, xb0, xaz, x81, x80, x87, x88, x85, x86, xd1, xd0, x8t, x8s, x6r, x6n, x6p, x6o, x8b, x6k, x6l, x6m, x7z, x1c, x2b, x8v, x9f, x9v, x9w, x9u, x9t, x59, x5a, x8u, x97, x35, x34, x0o, x0a, x0b, x0d, x0c, x0e, x0p, x0q, x0r, x12, x0z, x10, x11, x5o, x5g, x9g, x9a, x9b, x9c, x9d, x0n, x0l, x0m, x36, xef, xeg, x4p, x4o, xax, xay, x53, x55, x54, xaw, xau, x3f, x3e, x3d, x3g, x8p, x8o, x8q, x8r, x7r, x7p, x7q, x7o, x7m, x7k, x7l, x7n, x7i, x7h, x7f, x7g, x14, x16, x17, x15, x13, x1f, x1e, x5j, x5h, x5i, x57, x58, x56, x27, x2a, x29, x28, x9k, x9j, x9l, x9i, x1j, x21, x22, x23, x26, x25, x24, x7v, x7w, x3n, x3h, x3i, x7j, x7s, x7t, x7u, x96, x95, x94, x5e, x5f, x5c, x3p, x3q, x3r, x3s, x3t, x3u, x3v, x3w, x3x, x4a, x4l, x49, x4b, x4c, x3j, x2o, x2j, x2d, x2i, x2m, x2n, x2c, x2h, x2g, x2f, x2e, x2k, x6s, x6u, x6t, x2x, x7y, x2w, x7x, x5u, x5r, x5q, x5v, x5s, x5p, x5t, x6a, x67, x66, x6b, x68, x65, x69, x5z, x5x, x5y, x5w, x60, x64, x63, x61, x62, xbn, xd2, xbt, xd8, xbo, xd3, xbr, xd6, xbp, xd4, xbq, xd5, xbs, xd7, xct, xe8, xcz, xee, xcu, xe9, xcx, xec, xcv, xea, xcw, xeb, xcy, xed, xbu, xd9, xc0, xdf, xbv, xda, xby, xdd, xbw, xdb, xbx, xdc, xbz, xde, xcf, xdu, xcl, xe0, xcg, xdv, xcj, xdy, xch, xdw, xci, xdx, xck, xdz, xc1, xdg, xc7, xdm, xc2, xdh, xc5, xdk, xc3, xdi, xc4, xdj, xc6, xdl, xc8, xdn, xce, xdt, xc9, xdo, xcc, xdr, xca, xdp, xcb, xdq, xcd, xds, xcm, xe1, xcs, xe7, xcn, xe2, xcq, xe5, xco, xe3, xcp, xe4, xcr, xe6, x8k, x8l, x8m, x8n, x0s, x0t, x0u, x0v, x0w, x0x, x0y, x3y, x4n, x41, x4e, x44, x4j, x47, x4g, x4m, x40, x4d, x43, x4i, x46, x4h, x3z, x42, x4f, x45, x4k, x48, x37, x3c, x38, x39, x3a, x3b, x1n, x1o, x1p, x1q, x1r, x1s, x1t, x1u, x1k, x1l, x1m, List.getElem?_cons_zero, List.getElem?_cons_succ, List.set_cons_zero, List.set_cons_succ, List.replicate, List.cons_append, List.nil_append, List.take_succ_cons, List.take_zero, List.getD_cons_zero, List.getD_cons_succ, List.map_cons, List.map_nil, if_true, if_false, Bool.true_and, Bool.and_true, Bool.false_and, Bool.and_false, Bool.true_or, Bool.or_true, Bool.false_or, Bool.or_false, Bool.not_true, Bool.not_false, reduceIte, Bool.false_eq_true, eq_self, Nat.sub_self, sc, noL, noLAll, Option.map_some, Int.toNat_natCast, Nat.reduceSub, Nat.reduceAdd, decide_true, decide_false, List.length_cons, List.length_nil, Int.reduceLT, Int.reduceLE, Int.reduceAdd, Int.reduceMul, Int.reduceSub, Int.reduceNeg, Int.reduceToNat, Int.reducePow, Int.reduceMod, Int.reduceDiv, Int.reduceEq, Nat.reducePow, Nat.reduceMul, Nat.reduceLT, Nat.reduceLeDiff, Int.ofNat_zero, Int.natCast_zero, Int.natCast_one, Int.ofNat_eq_natCast, Int.natCast_nonneg, beq_self_eq_true, Option.isNone_none, Option.isNone_some, Bool.not_eq_true, List.append_nil, Option.bind_some, List.lookup_cons, List.contains_nil, List.contains_cons, isn_ob, c, ne_eq, not_false_eq_true])]
    simp only [x02, x9h, xa1, xa0, x9y, x9z, x9x, x33, x30, x2y, x2z, x32, x31, x52, x50, x4z, x51, x4y, x4w, x4x, xbh, xbm, xbi, xbf, xbg, xbe, xbj, xbl, xbk, xba, xbd, xbb, xbc, x7b, x7c, x7a, x7e, x7d, x78, x79, xb5, xb9, xb6, xb8, xb7, x00, x01, x8j, x8c, x18, x19, x1a, xb3, xb4, x0j, x0g, x0i, x0h, x8d, x8e, x8g, x8f, x82, x83, x84, xat, xar, xas, xal, xak, xap, xao, xan, xam, xeh, x07, x03, x04, x05, x06, x08, x09, x6j, x6c, x6d, x6e, x6f, x6g, x6h, x6i, x2q, x2p, x2r, x2s, xav, xaq, x77, x76, x3m, x3l, xa3, xa4, xab, xac, xad, xae, xaf, xag, xah, xai, xa5, xa6, xa7, xa8, xa9, xaa, xaj, x89, x8a, x8h, x8i, x9m, x9n, x9o, x9p, x9q, x9r, x9s, x6x, x6v, x6w, x20, x1v, x1w, x1y, x1x, x1z, x4v, x4t, x4u, x4q, x4r, x4s, x5b, x1b, x1i, x1h, x1g, x1d, x74, x75, x73, x6z, x6y, x72, x70, x71, x9e, x5k, x5l, x5m, x5n, x8x, x8y, x8z, x90, x91, x92, x93, x2v, x2t, x2u, xei, xej, xek, xel, x8w, x98, x99, xb1, xb2, xb0, xaz, x81, x80, x87, x88, x85, x86, xd1, xd0, x8t, x8s, x6r, x6n, x6p, x6o, x8b, x6k, x6l, x6m, x7z, x1c, x2b, x8v, x9f, x9v, x9w, x9u, x9t, x59, x5a, x8u, x97, x35, x34, x0o, x0a, x0b, x0d, x0c, x0e, x0p, x0q, x0r, x12, x0z, x10, x11, x5o, x5g, x9g, x9a, x9b, x9c, x9d, x0n, x0l, x0m, x36, xef, xeg, x4p, x4o, xax, xay, x53, x55, x54, xaw, xau, x3f, x3e, x3d, x3g, x8p, x8o, x8q, x8r, x7r, x7p, x7q, x7o, x7m, x7k, x7l, x7n, x7i, x7h, x7f, x7g, x14, x16, x17, x15, x13, x1f, x1e, x5j, x5h, x5i, x57, x58, x56, x27, x2a, x29, x28, x9k, x9j, x9l, x9i, x1j, x21, x22, x23, x26, x25, x24, x7v, x7w, x3n, x3h, x3i, x7j, x7s, x7t, x7u, x96, x95, x94, x5e, x5f, x5c, x3p, x3q, x3r, x3s, x3t, x3u, x3v, x3w, x3x, x4a, x4l, x49, x4b, x4c, x3j, x2o, x2j, x2d, x2i, x2m, x2n, x2c, x2h, x2g, x2f, x2e, x2k, x6s, x6u, x6t, x2x, x7y, x2w, x7x, x5u, x5r, x5q, x5v, x5s, x5p, x5t, x6a, x67, x66, x6b, x68, x65, x69, x5z, x5x, x5y, x5w, x60, x64, x63, x61, x62, xbn, xd2, xbt, xd8, xbo, xd3, xbr, xd6, xbp, xd4, xbq, xd5, xbs, xd7, xct, xe8, xcz, xee, xcu, xe9, xcx, xec, xcv, xea, xcw, xeb, xcy, xed, xbu, xd9, xc0, xdf, xbv, xda, xby, xdd, xbw, xdb, xbx, xdc, xbz, xde, xcf, xdu, xcl, xe0, xcg, xdv, xcj, xdy, xch, xdw, xci, xdx, xck, xdz, xc1, xdg, xc7, xdm, xc2, xdh, xc5, xdk, xc3, xdi, xc4, xdj, xc6, xdl, xc8, xdn, xce, xdt, xc9, xdo, xcc, xdr, xca, xdp, xcb, xdq, xcd, xds, xcm, xe1, xcs, xe7, xcn, xe2, xcq, xe5, xco, xe3, xcp, xe4, xcr, xe6, x8k, x8l, x8m, x8n, x0s, x0t, x0u, x0v, x0w, x0x, x0y, x3y, x4n, x41, x4e, x44, x4j, x47, x4g, x4m, x40, x4d, x43, x4i, x46, x4h, x3z, x42, x4f, x45, x4k, x48, x37, x3c, x38, x39, x3a, x3b, x1n, x1o, x1p, x1q, x1r, x1s, x1t, x1u, x1k, x1l, x1m, List.getElem?_cons_zero, List.getElem?_cons_succ, List.set_cons_zero, List.set_cons_succ, List.replicate, List.cons_append, List.nil_append, List.take_succ_cons, List.take_zero, List.getD_cons_zero, List.getD_cons_succ, List.map_cons, List.map_nil, if_true, if_false, Bool.true_and, Bool.and_true, Bool.false_and, Bool.and_false, Bool.true_or, Bool.or_true, Bool.false_or, Bool.or_false, Bool.not_true, Bool.not_false, reduceIte, Bool.false_eq_true, eq_self, Nat.sub_self, sc, noL, noLAll, Option.map_some, Int.toNat_natCast, Nat.reduceSub, Nat.reduceAdd, decide_true, decide_false, List.length_cons, List.length_nil, Int.reduceLT, Int.reduceLE, Int.reduceAdd, Int.reduceMul, Int.reduceSub, Int.reduceNeg, Int.reduceToNat, Int.reducePow, Int.reduceMod, Int.reduceDiv, Int.reduceEq, Nat.reducePow, Nat.reduceMul, Nat.reduceLT, Nat.reduceLeDiff, Int.ofNat_zero, Int.natCast_zero, Int.natCast_one, Int.ofNat_eq_natCast, Int.natCast_nonneg, beq_self_eq_true, Option.isNone_none, Option.isNone_some, Bool.not_eq_true, List.append_nil, Option.bind_some, List.lookup_cons, List.contains_nil, List.contains_cons, flagT, map_snd]
    rw [show ((s.zip w).map fun p => PyData.bool (decide (p.1 ≠ some false) && !p.2)) = (leftOf s w).map .bool from by unfold leftOf; rw [List.zip, List.map_zipWith, List.map_zipWith]]
    trace_state
    simp only [x02, x9h, xa1, xa0, x9y, x9z, x9x, x33, x30, x2y, x2z, x32, x31, x52, x50, x4z, x51, x4y, x4w, x4x, xbh, xbm, xbi, xbf, xbg, xbe, xbj, xbl, xbk, xba, xbd, xbb, xbc, x7b, x7c, x7a, x7e, x7d, x78, x79, xb5, xb9, xb6, xb8, xb7, x00, x01, x8j, x8c, x18, x19, x1a, xb3, xb4, x0j, x0g, x0i, x0h, x8d, x8e, x8g, x8f, x82, x83, x84, xat, xar, xas, xal, xak, xap, xao, xan, xam, xeh, x07, x03, x04, x05, x06, x08, x09, x6j, x6c, x6d, x6e, x6f, x6g, x6h, x6i, x2q, x2p, x2r, x2s, xav, xaq, x77, x76, x3m, x3l, xa3, xa4, xab, xac, xad, xae, xaf, xag, xah, xai, xa5, xa6, xa7, xa8, xa9, xaa, xaj, x89, x8a, x8h, x8i, x9m, x9n, x9o, x9p, x9q, x9r, x9s, x6x, x6v, x6w, x20, x1v, x1w, x1y, x1x, x1z, x4v, x4t, x4u, x4q, x4r, x4s, x5b, x1b, x1i, x1h, x1g, x1d, x74, x75, x73, x6z, x6y, x72, x70, x71, x9e, x5k, x5l, x5m, x5n, x8x, x8y, x8z, x90, x91, x92, x93, x2v, x2t, x2u, xei, xej, xek, xel, x8w, x98, x99, xb1, xb2, xb0, xaz, x81, x80, x87, x88, x85, x86, xd1, xd0, x8t, x8s, x6r, x6n, x6p, x6o, x8b, x6k, x6l, x6m, x7z, x1c, x2b, x8v, x9f, x9v, x9w, x9u, x9t, x59, x5a, x8u, x97, x35, x34, x0o, x0a, x0b, x0d, x0c, x0e, x0p, x0q, x0r, x12, x0z, x10, x11, x5o, x5g, x9g, x9a, x9b, x9c, x9d, x0n, x0l, x0m, x36, xef, xeg, x4p, x4o, xax, xay, x53, x55, x54, xaw, xau, x3f, x3e, x3d, x3g, x8p, x8o, x8q, x8r, x7r, x7p, x7q, x7o, x7m, x7k, x7l, x7n, x7i, x7h, x7f, x7g, x14, x16, x17, x15, x13, x1f, x1e, x5j, x5h, x5i, x57, x58, x56, x27, x2a, x29, x28, x9k, x9j, x9l, x9i, x1j, x21, x22, x23, x26, x25, x24, x7v, x7w, x3n, x3h, x3i, x7j, x7s, x7t, x7u, x96, x95, x94, x5e, x5f, x5c, x3p, x3q, x3r, x3s, x3t, x3u, x3v, x3w, x3x, x4a, x4l, x49, x4b, x4c, x3j, x2o, x2j, x2d, x2i, x2m, x2n, x2c, x2h, x2g, x2f, x2e, x2k, x6s, x6u, x6t, x2x, x7y, x2w, x7x, x5u, x5r, x5q, x5v, x5s, x5p, x5t, x6a, x67, x66, x6b, x68, x65, x69, x5z, x5x, x5y, x5w, x60, x64, x63, x61, x62, xbn, xd2, xbt, xd8, xbo, xd3, xbr, xd6, xbp, xd4, xbq, xd5, xbs, xd7, xct, xe8, xcz, xee, xcu, xe9, xcx, xec, xcv, xea, xcw, xeb, xcy, xed, xbu, xd9, xc0, xdf, xbv, xda, xby, xdd, xbw, xdb, xbx, xdc, xbz, xde, xcf, xdu, xcl, xe0, xcg, xdv, xcj, xdy, xch, xdw, xci, xdx, xck, xdz, xc1, xdg, xc7, xdm, xc2, xdh, xc5, xdk, xc3, xdi, xc4, xdj, xc6, xdl, xc8, xdn, xce, xdt, xc9, xdo, xcc, xdr, xca, xdp, xcb, xdq, xcd, xds, xcm, xe1, xcs, xe7, xcn, xe2, xcq, xe5, xco, xe3, xcp, xe4, xcr, xe6, x8k, x8l, x8m, x8n, x0s, x0t, x0u, x0v, x0w, x0x, x0y, x3y, x4n, x41, x4e, x44, x4j, x47, x4g, x4m, x40, x4d, x43, x4i, x46, x4h, x3z, x42, x4f, x45, x4k, x48, x37, x3c, x38, x39, x3a, x3b, x1n, x1o, x1p, x1q, x1r, x1s, x1t, x1u, x1k, x1l, x1m, List.getElem?_cons_zero, List.getElem?_cons_succ, List.set_cons_zero, List.set_cons_succ, List.replicate, List.cons_append, List.nil_append, List.take_succ_cons, List.take_zero, List.getD_cons_zero, List.getD_cons_succ, List.map_cons, List.map_nil, if_true, if_false, Bool.true_and, Bool.and_true, Bool.false_and, Bool.and_false, Bool.true_or, Bool.or_true, Bool.false_or, Bool.or_false, Bool.not_true, Bool.not_false, reduceIte, Bool.false_eq_true, eq_self, Nat.sub_self, sc, noL, noLAll, Option.map_some, Int.toNat_natCast, Nat.reduceSub, Nat.reduceAdd, decide_true, decide_false, List.length_cons, List.length_nil, Int.reduceLT, Int.reduceLE, Int.reduceAdd, Int.reduceMul, Int.reduceSub, Int.reduceNeg, Int.reduceToNat, Int.reducePow, Int.reduceMod, Int.reduceDiv, Int.reduceEq, Nat.reducePow, Nat.reduceMul, Nat.reduceLT, Nat.reduceLeDiff, Int.ofNat_zero, Int.natCast_zero, Int.natCast_one, Int.ofNat_eq_natCast, Int.natCast_nonneg, beq_self_eq_true, Option.isNone_none, Option.isNone_some, Bool.not_eq_true, List.append_nil, Option.bind_some, List.lookup_cons, List.contains_nil, List.contains_cons, L]
  | most k its =>
    refine ⟨true, ?_⟩
    show f_Most_lost _ = _
    have L := r_worth_of its (insOf s) (by rw [insOf_len]; exact its_lt' h)
    unfold f_Most_lost b_Most_lost obC obFs Part.lost
    simp only [x02, x9h, xa1, xa0, x9y, x9z, x9x, x33, x30, x2y, x2z, x32, x31, x52, x50, x4z, x51, x4y, x4w, x4x, xbh, xbm, xbi, xbf, xbg, xbe, xbj, xbl, xbk, xba, xbd, xbb, xbc, x7b, x7c, x7a, x7e, x7d, x78, x79, xb5, xb9, xb6, xb8, xb7, x00, x01, x8j, x8c, x18, x19, x1a, xb3, xb4, x0j, x0g, x0i, x0h, x8d, x8e, x8g, x8f, x82, x83, x84, xat, xar, xas, xal, xak, xap, xao, xan, xam, xeh, x07, x03, x04, x05, x06, x08, x09, x6j, x6c, x6d, x6e, x6f, x6g, x6h, x6i, x2q, x2p, x2r, x2s, xav, xaq, x77, x76, x3m, x3l, xa3, xa4, xab, xac, xad, xae, xaf, xag, xah, xai, xa5, xa6, xa7, xa8, xa9, xaa, xaj, x89, x8a, x8h, x8i, x9m, x9n, x9o, x9p, x9q, x9r, x9s, x6x, x6v, x6w, x20, x1v, x1w, x1y, x1x, x1z, x4v, x4t, x4u, x4q, x4r, x4s, x5b, x1b, x1i, x1h, x1g, x1d, x74, x75, x73, x6z, x6y, x72, x70, x71, x9e, x5k, x5l, x5m, x5n, x8x, x8y, x8z, x90, x91, x92, x93, x2v, x2t, x2u, xei, xej, xek, xel, x8w, x98, x99, xb1, xb2, xb0, xaz, x81, x80, x87, x88, x85, x86, xd1, xd0, x8t, x8s, x6r, x6n, x6p, x6o, x8b, x6k, x6l, x6m, x7z, x1c, x2b, x8v, x9f, x9v, x9w, x9u, x9t, x59, x5a, x8u, x97, x35, x34, x0o, x0a, x0b, x0d, x0c, x0e, x0p, x0q, x0r, x12, x0z, x10, x11, x5o, x5g, x9g, x9a, x9b, x9c, x9d, x0n, x0l, x0m, x36, xef, xeg, x4p, x4o, xax, xay, x53, x55, x54, xaw, xau, x3f, x3e, x3d, x3g, x8p, x8o, x8q, x8r, x7r, x7p, x7q, x7o, x7m, x7k, x7l, x7n, x7i, x7h, x7f, x7g, x14, x16, x17, x15, x13, x1f, x1e, x5j, x5h, x5i, x57, x58, x56, x27, x2a, x29, x28, x9k, x9j, x9l, x9i, x1j, x21, x22, x23, x26, x25, x24, x7v, x7w, x3n, x3h, x3i, x7j, x7s, x7t, x7u, x96, x95, x94, x5e, x5f, x5c, x3p, x3q, x3r, x3s, x3t, x3u, x3v, x3w, x3x, x4a, x4l, x49, x4b, x4c, x3j, x2o, x2j, x2d, x2i, x2m, x2n, x2c, x2h, x2g, x2f, x2e, x2k, x6s, x6u, x6t, x2x, x7y, x2w, x7x, x5u, x5r, x5q, x5v, x5s, x5p, x5t, x6a, x67, x66, x6b, x68, x65, x69, x5z, x5x, x5y, x5w, x60, x64, x63, x61, x62, xbn, xd2, xbt, xd8, xbo, xd3, xbr, xd6, xbp, xd4, xbq, xd5, xbs, xd7, xct, xe8, xcz, xee, xcu, xe9, xcx, xec, xcv, xea, xcw, xeb, xcy, xed, xbu, xd9, xc0, xdf, xbv, xda, xby, xdd, xbw, xdb, xbx, xdc, xbz, xde, xcf, xdu, xcl, xe0, xcg, xdv, xcj, xdy, xch, xdw, xci, xdx, xck, xdz, xc1, xdg, xc7, xdm, xc2, xdh, xc5, xdk, xc3, xdi, xc4, xdj, xc6, xdl, xc8, xdn, xce, xdt, xc9, xdo, xcc, xdr, xca, xdp, xcb, xdq, xcd, xds, xcm, xe1, xcs, xe7, xcn, xe2, xcq, xe5, xco, xe3, xcp, xe4, xcr, xe6, x8k, x8l, x8m, x8n, x0s, x0t, x0u, x0v, x0w, x0x, x0y, x3y, x4n, x41, x4e, x44, x4j, x47, x4g, x4m, x40, x4d, x43, x4i, x46, x4h, x3z, x42, x4f, x45, x4k, x48, x37, x3c, x38, x39, x3a, x3b, x1n, x1o, x1p, x1q, x1r, x1s, x1t, x1u, x1k, x1l, x1m, List.getElem?_cons_zero, List.getElem?_cons_succ, List.set_cons_zero, List.set_cons_succ, List.replicate, List.cons_append, List.nil_append, List.take_succ_cons, List.take_zero, List.getD_cons_zero, List.getD_cons_succ, List.map_cons, List.map_nil, if_true, if_false, Bool.true_and, Bool.and_true, Bool.false_and, Bool.and_false, Bool.true_or, Bool.or_true, Bool.false_or, Bool.or_false, Bool.not_true, Bool.not_false, reduceIte, Bool.false_eq_true, eq_self, Nat.sub_self, sc, noL, noLAll, Option.map_some, Int.toNat_natCast, Nat.reduceSub, Nat.reduceAdd, decide_true, decide_false, List.length_cons, List.length_nil, Int.reduceLT, Int.reduceLE, Int.reduceAdd, Int.reduceMul, Int.reduceSub, Int.reduceNeg, Int.reduceToNat, Int.reducePow, Int.reduceMod, Int.reduceDiv, Int.reduceEq, Nat.reducePow, Nat.reduceMul, Nat.reduceLT, Nat.reduceLeDiff, Int.ofNat_zero, Int.natCast_zero, Int.natCast_one, Int.ofNat_eq_natCast, Int.natCast_nonneg, beq_self_eq_true, Option.isNone_none, Option.isNone_some, Bool.not_eq_true, List.append_nil, Option.bind_some, List.lookup_cons, List.contains_nil, List.contains_cons]
    rw [lc_ins s _ _ _ rfl (fun _ => rfl) (fun _ => rfl)]
    simp only [x02, x9h, xa1, xa0, x9y, x9z, x9x, x33, x30, x2y, x2z, x32, x31, x52, x50, x4z, x51, x4y, x4w, x4x, xbh, xbm, xbi, xbf, xbg, xbe, xbj, xbl, xbk, xba, xbd, xbb, xbc, x7b, x7c, x7a, x7e, x7d, x78, x79, xb5, xb9, xb6, xb8, xb7, x00, x01, x8j, x8c, x18, x19, x1a, xb3, xb4, x0j, x0g, x0i, x0h, x8d, x8e, x8g, x8f, x82, x83, x84, xat, xar, xas, xal, xak, xap, xao, xan, xam, xeh, x07, x03, x04, x05, x06, x08, x09, x6j, x6c, x6d, x6e, x6f, x6g, x6h, x6i, x2q, x2p, x2r, x2s, xav, xaq, x77, x76, x3m, x3l, xa3, xa4, xab, xac, xad, xae, xaf, xag, xah, xai, xa5, xa6, xa7, xa8, xa9, xaa, xaj, x89, x8a, x8h, x8i, x9m, x9n, x9o, x9p, x9q, x9r, x9s, x6x, x6v, x6w, x20, x1v, x1w, x1y, x1x, x1z, x4v, x4t, x4u, x4q, x4r, x4s, x5b, x1b, x1i, x1h, x1g, x1d, x74, x75, x73, x6z, x6y, x72, x70, x71, x9e, x5k, x5l, x5m, x5n, x8x, x8y, x8z, x90, x91, x92, x93, x2v, x2t, x2u, xei, xej, xek, xel, x8w, x98, x99, xb1, xb2, xb0, xaz, x81, x80, x87, x88, x85, x86, xd1, xd0, x8t, x8s, x6r, x6n, x6p, x6o, x8b, x6k, x6l, x6m, x7z, x1c, x2b, x8v, x9f, x9v, x9w, x9u, x9t, x59, x5a, x8u, x97, x35, x34, x0o, x0a, x0b, x0d, x0c, x0e, x0p, x0q, x0r, x12, x0z, x10, x11, x5o, x5g, x9g, x9a, x9b, x9c, x9d, x0n, x0l, x0m, x36, xef, xeg, x4p, x4o, xax, xay, x53, x55, x54, xaw, xau, x3f, x3e, x3d, x3g, x8p, x8o, x8q, x8r, x7r, x7p, x7q, x7o, x7m, x7k, x7l, x7n, x7i, x7h, x7f, x7g, x14, x16, x17, x15, x13, x1f, x1e, x5j, x5h, x5i, x57, x58, x56, x27, x2a, x29, x28, x9k, x9j, x9l, x9i, x1j, x21, x22, x23, x26, x25, x24, x7v, x7w, x3n, x3h, x3i, x7j, x7s, x7t, x7u, x96, x95, x94, x5e, x5f, x5c, x3p, x3q, x3r, x3s, x3t, x3u, x3v, x3w, x3x, x4a, x4l, x49, x4b, x4c, x3j, x2o, x2j, x2d, x2i, x2m, x2n, x2c, x2h, x2g, x2f, x2e, x2k, x6s, x6u, x6t, x2x, x7y, x2w, x7x, x5u, x5r, x5q, x5v, x5s, x5p, x5t, x6a, x67, x66, x6b, x68, x65, x69, x5z, x5x, x5y, x5w, x60, x64, x63, x61, x62, xbn, xd2, xbt, xd8, xbo, xd3, xbr, xd6, xbp, xd4, xbq, xd5, xbs, xd7, xct, xe8, xcz, xee, xcu, xe9, xcx, xec, xcv, xea, xcw, xeb, xcy, xed, xbu, xd9, xc0, xdf, xbv, xda, xby, xdd, xbw, xdb, xbx, xdc, xbz, xde, xcf, xdu, xcl, xe0, xcg, xdv, xcj, xdy, xch, xdw, xci, xdx, xck, xdz, xc1, xdg, xc7, xdm, xc2, xdh, xc5, xdk, xc3, xdi, xc4, xdj, xc6, xdl, xc8, xdn, xce, xdt, xc9, xdo, xcc, xdr, xca, xdp, xcb, xdq, xcd, xds, xcm, xe1, xcs, xe7, xcn, xe2, xcq, xe5, xco, xe3, xcp, xe4, xcr, xe6, x8k, x8l, x8m, x8n, x0s, x0t, x0u, x0v, x0w, x0x, x0y, x3y, x4n, x41, x4e, x44, x4j, x47, x4g, x4m, x40, x4d, x43, x4i, x46, x4h, x3z, x42, x4f, x45, x4k, x48, x37, x3c, x38, x39, x3a, x3b, x1n, x1o, x1p, x1q, x1r, x1s, x1t, x1u, x1k, x1l, x1m, List.getElem?_cons_zero, List.getElem?_cons_succ, List.set_cons_zero, List.set_cons_succ, List.replicate, List.cons_append, List.nil_append, List.take_succ_cons, List.take_zero, List.getD_cons_zero, List.getD_cons_succ, List.map_cons, List.map_nil, if_true, if_false, Bool.true_and, Bool.and_true, Bool.false_and, Bool.and_false, Bool.true_or, Bool.or_true, Bool.false_or, Bool.or_false, Bool.not_true, Bool.not_false, reduceIte, Bool.false_eq_true, eq_self, Nat.sub_self, sc, noL, noLAll, Option.map_some, Int.toNat_natCast, Nat.reduceSub, Nat.reduceAdd, decide_true, decide_false, List.length_cons, List.length_nil, Int.reduceLT, Int.reduceLE, Int.reduceAdd, Int.reduceMul, Int.reduceSub, Int.reduceNeg, Int.reduceToNat, Int.reducePow, Int.reduceMod, Int.reduceDiv, Int.reduceEq, Nat.reducePow, Nat.reduceMul, Nat.reduceLT, Nat.reduceLeDiff, Int.ofNat_zero, Int.natCast_zero, Int.natCast_one, Int.ofNat_eq_natCast, Int.natCast_nonneg, beq_self_eq_true, Option.isNone_none, Option.isNone_some, Bool.not_eq_true, List.append_nil, Option.bind_some, List.lookup_cons, List.contains_nil, List.contains_cons, flagT, map_snd]
    rw [show (s.map fun x => PyData.bool (decide (x = some true))) = (insOf s).map .bool from by unfold insOf; rw [List.map_map]; rfl]
    simp only [x02, x9h, xa1, xa0, x9y, x9z, x9x, x33, x30, x2y, x2z, x32, x31, x52, x50, x4z, x51, x4y, x4w, x4x, xbh, xbm, xbi, xbf, xbg, xbe, xbj, xbl, xbk, xba, xbd, xbb, xbc, x7b, x7c, x7a, x7e, x7d, x78, x79, xb5, xb9, xb6, xb8, xb7, x00, x01, x8j, x8c, x18, x19, x1a, xb3, xb4, x0j, x0g, x0i, x0h, x8d, x8e, x8g, x8f, x82, x83, x84, xat, xar, xas, xal, xak, xap, xao, xan, xam, xeh, x07, x03, x04, x05, x06, x08, x09, x6j, x6c, x6d, x6e, x6f, x6g, x6h, x6i, x2q, x2p, x2r, x2s, xav, xaq, x77, x76, x3m, x3l, xa3, xa4, xab, xac, xad, xae, xaf, xag, xah, xai, xa5, xa6, xa7, xa8, xa9, xaa, xaj, x89, x8a, x8h, x8i, x9m, x9n, x9o, x9p, x9q, x9r, x9s, x6x, x6v, x6w, x20, x1v, x1w, x1y, x1x, x1z, x4v, x4t, x4u, x4q, x4r, x4s, x5b, x1b, x1i, x1h, x1g, x1d, x74, x75, x73, x6z, x6y, x72, x70, x71, x9e, x5k, x5l, x5m, x5n, x8x, x8y, x8z, x90, x91, x92, x93, x2v, x2t, x2u, xei, xej, xek, xel, x8w, x98, x99, xb1, xb2, xb0, xaz, x81, x80, x87, x88, x85, x86, xd1, xd0, x8t, x8s, x6r, x6n, x6p, x6o, x8b, x6k, x6l, x6m, x7z, x1c, x2b, x8v, x9f, x9v, x9w, x9u, x9t, x59, x5a, x8u, x97, x35, x34, x0o, x0a, x0b, x0d, x0c, x0e, x0p, x0q, x0r, x12, x0z, x10, x11, x5o, x5g, x9g, x9a, x9b, x9c, x9d, x0n, x0l, x0m, x36, xef, xeg, x4p, x4o, xax, xay, x53, x55, x54, xaw, xau, x3f, x3e, x3d, x3g, x8p, x8o, x8q, x8r, x7r, x7p, x7q, x7o, x7m, x7k, x7l, x7n, x7i, x7h, x7f, x7g, x14, x16, x17, x15, x13, x1f, x1e, x5j, x5h, x5i, x57, x58, x56, x27, x2a, x29, x28, x9k, x9j, x9l, x9i, x1j, x21, x22, x23, x26, x25, x24, x7v, x7w, x3n, x3h, x3i, x7j, x7s, x7t, x7u, x96, x95, x94, x5e, x5f, x5c, x3p, x3q, x3r, x3s, x3t, x3u, x3v, x3w, x3x, x4a, x4l, x49, x4b, x4c, x3j, x2o, x2j, x2d, x2i, x2m, x2n, x2c, x2h, x2g, x2f, x2e, x2k, x6s, x6u, x6t, x2x, x7y, x2w, x7x, x5u, x5r, x5q, x5v, x5s, x5p, x5t, x6a, x67, x66, x6b, x68, x65, x69, x5z, x5x, x5y, x5w, x60, x64, x63, x61, x62, xbn, xd2, xbt, xd8, xbo, xd3, xbr, xd6, xbp, xd4, xbq, xd5, xbs, xd7, xct, xe8, xcz, xee, xcu, xe9, xcx, xec, xcv, xea, xcw, xeb, xcy, xed, xbu, xd9, xc0, xdf, xbv, xda, xby, xdd, xbw, xdb, xbx, xdc, xbz, xde, xcf, xdu, xcl, xe0, xcg, xdv, xcj, xdy, xch, xdw, xci, xdx, xck, xdz, xc1, xdg, xc7, xdm, xc2, xdh, xc5, xdk, xc3, xdi, xc4, xdj, xc6, xdl, xc8, xdn, xce, xdt, xc9, xdo, xcc, xdr, xca, xdp, xcb, xdq, xcd, xds, xcm, xe1, xcs, xe7, xcn, xe2, xcq, xe5, xco, xe3, xcp, xe4, xcr, xe6, x8k, x8l, x8m, x8n, x0s, x0t, x0u, x0v, x0w, x0x, x0y, x3y, x4n, x41, x4e, x44, x4j, x47, x4g, x4m, x40, x4d, x43, x4i, x46, x4h, x3z, x42, x4f, x45, x4k, x48, x37, x3c, x38, x39, x3a, x3b, x1n, x1o, x1p, x1q, x1r, x1s, x1t, x1u, x1k, x1l, x1m, List.getElem?_cons_zero, List.getElem?_cons_succ, List.set_cons_zero, List.set_cons_succ, List.replicate, List.cons_append, List.nil_append, List.take_succ_cons, List.take_zero, List.getD_cons_zero, List.getD_cons_succ, List.map_cons, List.map_nil, if_true, if_false, Bool.true_and, Bool.and_true, Bool.false_and, Bool.and_false, Bool.true_or, Bool.or_true, Bool.false_or, Bool.or_false, Bool.not_true, Bool.not_false, reduceIte, Bool.false_eq_true, eq_self, Nat.sub_self, sc, noL, noLAll, Option.map_some, Int.toNat_natCast, Nat.reduceSub, Nat.reduceAdd, decide_true, decide_false, List.length_cons, List.length_nil, Int.reduceLT, Int.reduceLE, Int.reduceAdd, Int.reduceMul, Int.reduceSub, Int.reduceNeg, Int.reduceToNat, Int.reducePow, Int.reduceMod, Int.reduceDiv, Int.reduceEq, Nat.reducePow, Nat.reduceMul, Nat.reduceLT, Nat.reduceLeDiff, Int.ofNat_zero, Int.natCast_zero, Int.natCast_one, Int.ofNat_eq_natCast, Int.natCast_nonneg, beq_self_eq_true, Option.isNone_none, Option.isNone_some, Bool.not_eq_true, List.append_nil, Option.bind_some, List.lookup_cons, List.contains_nil, List.contains_cons, L]
end My
end
section
set_option maxHeartbeats 4000000
/-! P2: helpers of the laws k02 to k04. -/
namespace My
open PySem PySem.Spec PyProof.Rows L2 DL
noncomputable def if_l_items_1 : MS :=
  (sIf (tst (mBin dEq (mBin dMod (mBin dFdiv (mVar 4) (mBin dMul (mC (.int 4)) (mVar 1))) (mC (.int 4))) (mC (.int 1))))
    (sAsg 5 (mBin dMod (mVar 3) (mBin dPow (mC (.int 10)) (mC (.int 60)))))
    sNil)
noncomputable def lp_l_items_1 : MS :=
  (sSeq (sAsg 4 (mCall f_l_mixed [false, false] (rCons (mVar 3) (rCons (mC (.int 0)) rNil))))
  (sSeq (sAsg 5 (mBin dMod (mBin dFdiv (mVar 4) (mVar 1)) (mC (.int 4))))
  (sSeq if_l_items_1
  (sApp 2 (mTup (eCons (mBin dMod (mVar 4) (mVar 1)) (eCons (mVar 5) eNil)))))))
noncomputable def b_l_items : MS :=
  (sSeq (sAsg 2 (mLst eNil))
  (sSeq (sFor (iSeq (mVar 0)) (.nm 3) lp_l_items_1)
  (sRet (mVar 2))))
noncomputable def f_l_items : FD := fnSem 2 6 b_l_items
def itemOf (c : Int) (many : Nat) : Nat × Int := (mixedN c 0 % many, if (mixedN c 0 : Int) / (4 * (many : Int)) % 4 = 1 then c % 1000000000000000000000000000000000000000000000000000000000000 else (mixedN c 0 : Int) / (many : Int) % 4)
theorem cdiv (i j : Int) (h : 0 < j) (h2 : j < 1073741824) : CDiv i j := ⟨h, h2⟩
theorem r_items (cells : List Int) (many : Nat) (h0 : 0 < many) (hm : many ≤ 60) (hc : cells.length ≤ 1000) : f_l_items [.v false (.list (cells.map .int)), .v false (.int many)] =
    some (.o false false true ((cells.map fun c => itemOf c many).map dItem), [.v false (.list (cells.map .int)), .v false (.int many)]) := by
  have hz : sizeLine = 16777216 := sizeLine_eq
  unfold f_l_items
  refine fn_ev rfl ?_
  unfold b_l_items
  simp only [List.cons_append, List.nil_append, List.replicate, Nat.reduceSub]
  refine Ev.seq (e1 := [.v false (.list (cells.map .int)), .v false (.int many), .o false false true [], .u, .u, .u]) (by simp only [x02, x9h, xa1, xa0, x9y, x9z, x9x, x33, x30, x2y, x2z, x32, x31, x52, x50, x4z, x51, x4y, x4w, x4x, xbh, xbm, xbi, xbf, xbg, xbe, xbj, xbl, xbk, xba, xbd, xbb, xbc, x7b, x7c, x7a, x7e, x7d, x78, x79, xb5, xb9, xb6, xb8, xb7, x00, x01, x8j, x8c, x18, x19, x1a, xb3, xb4, x0j, x0g, x0i, x0h, x8d, x8e, x8g, x8f, x82, x83, x84, xat, xar, xas, xal, xak, xap, xao, xan, xam, xeh, x07, x03, x04, x05, x06, x08, x09, x6j, x6c, x6d, x6e, x6f, x6g, x6h, x6i, x2q, x2p, x2r, x2s, xav, xaq, x77, x76, x3m, x3l, xa3, xa4, xab, xac, xad, xae, xaf, xag, xah, xai, xa5, xa6, xa7, xa8, xa9, xaa, xaj, x89, x8a, x8h, x8i, x9m, x9n, x9o, x9p, x9q, x9r, x9s, x6x, x6v, x6w, x20, x1v, x1w, x1y, x1x, x1z, x4v, x4t, x4u, x4q, x4r, x4s, x5b, x1b, x1i, x1h, x1g, x1d, x74, x75, x73, x6z, x6y, x72, x70, x71, x9e, x5k, x5l, x5m, x5n, x8x, x8y, x8z, x90, x91, x92, x93, x2v, x2t, x2u, xei, xej, xek, xel, x8w, x98, x99, xb1, xb2, xb0, xaz, x81, x80, x87, x88, x85, x86, xd1, xd0, x8t, x8s, x6r, x6n, x6p, x6o, x8b, x6k, x6l, x6m, x7z, x1c, x2b, x8v, x9f, x9v, x9w, x9u, x9t, x59, x5a, x8u, x97, x35, x34, x0o, x0a, x0b, x0d, x0c, x0e, x0p, x0q, x0r, x12, x0z, x10, x11, x5o, x5g, x9g, x9a, x9b, x9c, x9d, x0n, x0l, x0m, x36, xef, xeg, x4p, x4o, xax, xay, x53, x55, x54, xaw, xau, x3f, x3e, x3d, x3g, x8p, x8o, x8q, x8r, x7r, x7p, x7q, x7o, x7m, x7k, x7l, x7n, x7i, x7h, x7f, x7g, x14, x16, x17, x15, x13, x1f, x1e, x5j, x5h, x5i, x57, x58, x56, x27, x2a, x29, x28, x9k, x9j, x9l, x9i, x1j, x21, x22, x23, x26, x25, x24, x7v, x7w, x3n, x3h, x3i, x7j, x7s, x7t, x7u, x96, x95, x94, x5e, x5f, x5c, x3p, x3q, x3r, x3s, x3t, x3u, x3v, x3w, x3x, x4a, x4l, x49, x4b, x4c, x3j, x2o, x2j, x2d, x2i, x2m, x2n, x2c, x2h, x2g, x2f, x2e, x2k, x6s, x6u, x6t, x2x, x7y, x2w, x7x, x5u, x5r, x5q, x5v, x5s, x5p, x5t, x6a, x67, x66, x6b, x68, x65, x69, x5z, x5x, x5y, x5w, x60, x64, x63, x61, x62, xbn, xd2, xbt, xd8, xbo, xd3, xbr, xd6, xbp, xd4, xbq, xd5, xbs, xd7, xct, xe8, xcz, xee, xcu, xe9, xcx, xec, xcv, xea, xcw, xeb, xcy, xed, xbu, xd9, xc0, xdf, xbv, xda, xby, xdd, xbw, xdb, xbx, xdc, xbz, xde, xcf, xdu, xcl, xe0, xcg, xdv, xcj, xdy, xch, xdw, xci, xdx, xck, xdz, xc1, xdg, xc7, xdm, xc2, xdh, xc5, xdk, xc3, xdi, xc4, xdj, xc6, xdl, xc8, xdn, xce, xdt, xc9, xdo, xcc, xdr, xca, xdp, xcb, xdq, xcd, xds, xcm, xe1, xcs, xe7, xcn, xe2, xcq, xe5, xco, xe3, xcp, xe4, xcr, xe6, x8k, x8l, x8m, x8n, x0s, x0t, x0u, x0v, x0w, x0x, x0y, x3y, x4n, x41, x4e, x44, x4j, x47, x4g, x4m, x40, x4d, x43, x4i, x46, x4h, x3z, x42, x4f, x45, x4k, x48, x37, x3c, x38, x39, x3a, x3b, x1n, x1o, x1p, x1q, x1r, x1s, x1t, x1u, x1k, x1l, x1m, List.getElem?_cons_zero, List.getElem?_cons_succ, List.set_cons_zero, List.set_cons_succ, List.replicate, List.cons_append, List.nil_append, List.take_succ_cons, List.take_zero, List.getD_cons_zero, List.getD_cons_succ, List.map_cons, List.map_nil, if_true, if_false, Bool.true_and, Bool.and_true, Bool.false_and, Bool.and_false, Bool.true_or, Bool.or_true, Bool.false_or, Bool.or_false, Bool.not_true, Bool.not_false, reduceIte, Bool.false_eq_true, eq_self, Nat.sub_self, sc, noL, noLAll, Option.map_some, Int.toNat_natCast, Nat.reduceSub, Nat.reduceAdd, decide_true, decide_false, List.length_cons, List.length_nil, Int.reduceLT, Int.reduceLE, Int.reduceAdd, Int.reduceMul, Int.reduceSub, Int.reduceNeg, Int.reduceToNat, Int.reducePow, Int.reduceMod, Int.reduceDiv, Int.reduceEq, Nat.reducePow, Nat.reduceMul, Nat.reduceLT, Nat.reduceLeDiff, Int.ofNat_zero, Int.natCast_zero, Int.natCast_one, Int.ofNat_eq_natCast, Int.natCast_nonneg, beq_self_eq_true, Option.isNone_none, Option.isNone_some, Bool.not_eq_true, List.append_nil, Option.bind_some, List.lookup_cons, List.contains_nil, List.contains_cons]) ?_
  obtain ⟨e, h1, t3, t4, t5, he⟩ := forLoop_inv (tg := .nm 3) (body := lp_l_items_1) (f := false) PyData.int (fun pre e => ∃ t3 t4 t5, (frS (some t3) = true ∧ frS (some t4) = true ∧ frS (some t5) = true) ∧ e = [.v false (.list (cells.map .int)), .v false (.int many), .o false false true ((pre.map fun c => itemOf c many).map dItem), t3, t4, t5]) cells (fun pre c post e hx ⟨t3, t4, t5, ⟨f3, f4, f5⟩, he⟩ => by
    subst he
    have hl : pre.length < cells.length := by rw [hx, List.length_append, List.length_cons]; omega
    have hl2 : pre.length < sizeLine := by omega
    refine ⟨_, ?_, .v false (.int c), .v true (.int (mixedN c 0)), .v true (.int (itemOf c many).2), ⟨rfl, rfl, rfl⟩, rfl⟩
    have hmx := r_mixed c 0 (by decide)
    simp only [Int.natCast_zero] at hmx
    unfold lp_l_items_1 if_l_items_1
    simp only [x02, x9h, xa1, xa0, x9y, x9z, x9x, x33, x30, x2y, x2z, x32, x31, x52, x50, x4z, x51, x4y, x4w, x4x, xbh, xbm, xbi, xbf, xbg, xbe, xbj, xbl, xbk, xba, xbd, xbb, xbc, x7b, x7c, x7a, x7e, x7d, x78, x79, xb5, xb9, xb6, xb8, xb7, x00, x01, x8j, x8c, x18, x19, x1a, xb3, xb4, x0j, x0g, x0i, x0h, x8d, x8e, x8g, x8f, x82, x83, x84, xat, xar, xas, xal, xak, xap, xao, xan, xam, xeh, x07, x03, x04, x05, x06, x08, x09, x6j, x6c, x6d, x6e, x6f, x6g, x6h, x6i, x2q, x2p, x2r, x2s, xav, xaq, x77, x76, x3m, x3l, xa3, xa4, xab, xac, xad, xae, xaf, xag, xah, xai, xa5, xa6, xa7, xa8, xa9, xaa, xaj, x89, x8a, x8h, x8i, x9m, x9n, x9o, x9p, x9q, x9r, x9s, x6x, x6v, x6w, x20, x1v, x1w, x1y, x1x, x1z, x4v, x4t, x4u, x4q, x4r, x4s, x5b, x1b, x1i, x1h, x1g, x1d, x74, x75, x73, x6z, x6y, x72, x70, x71, x9e, x5k, x5l, x5m, x5n, x8x, x8y, x8z, x90, x91, x92, x93, x2v, x2t, x2u, xei, xej, xek, xel, x8w, x98, x99, xb1, xb2, xb0, xaz, x81, x80, x87, x88, x85, x86, xd1, xd0, x8t, x8s, x6r, x6n, x6p, x6o, x8b, x6k, x6l, x6m, x7z, x1c, x2b, x8v, x9f, x9v, x9w, x9u, x9t, x59, x5a, x8u, x97, x35, x34, x0o, x0a, x0b, x0d, x0c, x0e, x0p, x0q, x0r, x12, x0z, x10, x11, x5o, x5g, x9g, x9a, x9b, x9c, x9d, x0n, x0l, x0m, x36, xef, xeg, x4p, x4o, xax, xay, x53, x55, x54, xaw, xau, x3f, x3e, x3d, x3g, x8p, x8o, x8q, x8r, x7r, x7p, x7q, x7o, x7m, x7k, x7l, x7n, x7i, x7h, x7f, x7g, x14, x16, x17, x15, x13, x1f, x1e, x5j, x5h, x5i, x57, x58, x56, x27, x2a, x29, x28, x9k, x9j, x9l, x9i, x1j, x21, x22, x23, x26, x25, x24, x7v, x7w, x3n, x3h, x3i, x7j, x7s, x7t, x7u, x96, x95, x94, x5e, x5f, x5c, x3p, x3q, x3r, x3s, x3t, x3u, x3v, x3w, x3x, x4a, x4l, x49, x4b, x4c, x3j, x2o, x2j, x2d, x2i, x2m, x2n, x2c, x2h, x2g, x2f, x2e, x2k, x6s, x6u, x6t, x2x, x7y, x2w, x7x, x5u, x5r, x5q, x5v, x5s, x5p, x5t, x6a, x67, x66, x6b, x68, x65, x69, x5z, x5x, x5y, x5w, x60, x64, x63, x61, x62, xbn, xd2, xbt, xd8, xbo, xd3, xbr, xd6, xbp, xd4, xbq, xd5, xbs, xd7, xct, xe8, xcz, xee, xcu, xe9, xcx, xec, xcv, xea, xcw, xeb, xcy, xed, xbu, xd9, xc0, xdf, xbv, xda, xby, xdd, xbw, xdb, xbx, xdc, xbz, xde, xcf, xdu, xcl, xe0, xcg, xdv, xcj, xdy, xch, xdw, xci, xdx, xck, xdz, xc1, xdg, xc7, xdm, xc2, xdh, xc5, xdk, xc3, xdi, xc4, xdj, xc6, xdl, xc8, xdn, xce, xdt, xc9, xdo, xcc, xdr, xca, xdp, xcb, xdq, xcd, xds, xcm, xe1, xcs, xe7, xcn, xe2, xcq, xe5, xco, xe3, xcp, xe4, xcr, xe6, x8k, x8l, x8m, x8n, x0s, x0t, x0u, x0v, x0w, x0x, x0y, x3y, x4n, x41, x4e, x44, x4j, x47, x4g, x4m, x40, x4d, x43, x4i, x46, x4h, x3z, x42, x4f, x45, x4k, x48, x37, x3c, x38, x39, x3a, x3b, x1n, x1o, x1p, x1q, x1r, x1s, x1t, x1u, x1k, x1l, x1m, List.getElem?_cons_zero, List.getElem?_cons_succ, List.set_cons_zero, List.set_cons_succ, List.replicate, List.cons_append, List.nil_append, List.take_succ_cons, List.take_zero, List.getD_cons_zero, List.getD_cons_succ, List.map_cons, List.map_nil, if_true, if_false, Bool.true_and, Bool.and_true, Bool.false_and, Bool.and_false, Bool.true_or, Bool.or_true, Bool.false_or, Bool.or_false, Bool.not_true, Bool.not_false, reduceIte, Bool.false_eq_true, eq_self, Nat.sub_self, sc, noL, noLAll, Option.map_some, Int.toNat_natCast, Nat.reduceSub, Nat.reduceAdd, decide_true, decide_false, List.length_cons, List.length_nil, Int.reduceLT, Int.reduceLE, Int.reduceAdd, Int.reduceMul, Int.reduceSub, Int.reduceNeg, Int.reduceToNat, Int.reducePow, Int.reduceMod, Int.reduceDiv, Int.reduceEq, Nat.reducePow, Nat.reduceMul, Nat.reduceLT, Nat.reduceLeDiff, Int.ofNat_zero, Int.natCast_zero, Int.natCast_one, Int.ofNat_eq_natCast, Int.natCast_nonneg, beq_self_eq_true, Option.isNone_none, Option.isNone_some, Bool.not_eq_true, List.append_nil, Option.bind_some, List.lookup_cons, List.contains_nil, List.contains_cons, f3, f4, f5, hmx, if_pos (cdiv (mixedN c 0) (many : Int) (by omega) (by omega)), if_pos (show CMul 4 (many : Int) from .inl (by decide)), if_pos (cdiv (mixedN c 0) (4 * (many : Int)) (by omega) (by omega)), x8n, if_pos (show (0 : Int) < (many : Int) by omega), List.length_map, List.length_append, hl2]
    by_cases hw : (mixedN c 0 : Int) / (4 * (many : Int)) % 4 = 1
    · simp only [x02, x9h, xa1, xa0, x9y, x9z, x9x, x33, x30, x2y, x2z, x32, x31, x52, x50, x4z, x51, x4y, x4w, x4x, xbh, xbm, xbi, xbf, xbg, xbe, xbj, xbl, xbk, xba, xbd, xbb, xbc, x7b, x7c, x7a, x7e, x7d, x78, x79, xb5, xb9, xb6, xb8, xb7, x00, x01, x8j, x8c, x18, x19, x1a, xb3, xb4, x0j, x0g, x0i, x0h, x8d, x8e, x8g, x8f, x82, x83, x84, xat, xar, xas, xal, xak, xap, xao, xan, xam, xeh, x07, x03, x04, x05, x06, x08, x09, x6j, x6c, x6d, x6e, x6f, x6g, x6h, x6i, x2q, x2p, x2r, x2s, xav, xaq, x77, x76, x3m, x3l, xa3, xa4, xab, xac, xad, xae, xaf, xag, xah, xai, xa5, xa6, xa7, xa8, xa9, xaa, xaj, x89, x8a, x8h, x8i, x9m, x9n, x9o, x9p, x9q, x9r, x9s, x6x, x6v, x6w, x20, x1v, x1w, x1y, x1x, x1z, x4v, x4t, x4u, x4q, x4r, x4s, x5b, x1b, x1i, x1h, x1g, x1d, x74, x75, x73, x6z, x6y, x72, x70, x71, x9e, x5k, x5l, x5m, x5n, x8x, x8y, x8z, x90, x91, x92, x93, x2v, x2t, x2u, xei, xej, xek, xel, x8w, x98, x99, xb1, xb2, xb0, xaz, x81, x80, x87, x88, x85, x86, xd1, xd0, x8t, x8s, x6r, x6n, x6p, x6o, x8b, x6k, x6l, x6m, x7z, x1c, x2b, x8v, x9f, x9v, x9w, x9u, x9t, x59, x5a, x8u, x97, x35, x34, x0o, x0a, x0b, x0d, x0c, x0e, x0p, x0q, x0r, x12, x0z, x10, x11, x5o, x5g, x9g, x9a, x9b, x9c, x9d, x0n, x0l, x0m, x36, xef, xeg, x4p, x4o, xax, xay, x53, x55, x54, xaw, xau, x3f, x3e, x3d, x3g, x8p, x8o, x8q, x8r, x7r, x7p, x7q, x7o, x7m, x7k, x7l, x7n, x7i, x7h, x7f, x7g, x14, x16, x17, x15, x13, x1f, x1e, x5j, x5h, x5i, x57, x58, x56, x27, x2a, x29, x28, x9k, x9j, x9l, x9i, x1j, x21, x22, x23, x26, x25, x24, x7v, x7w, x3n, x3h, x3i, x7j, x7s, x7t, x7u, x96, x95, x94, x5e, x5f, x5c, x3p, x3q, x3r, x3s, x3t, x3u, x3v, x3w, x3x, x4a, x4l, x49, x4b, x4c, x3j, x2o, x2j, x2d, x2i, x2m, x2n, x2c, x2h, x2g, x2f, x2e, x2k, x6s, x6u, x6t, x2x, x7y, x2w, x7x, x5u, x5r, x5q, x5v, x5s, x5p, x5t, x6a, x67, x66, x6b, x68, x65, x69, x5z, x5x, x5y, x5w, x60, x64, x63, x61, x62, xbn, xd2, xbt, xd8, xbo, xd3, xbr, xd6, xbp, xd4, xbq, xd5, xbs, xd7, xct, xe8, xcz, xee, xcu, xe9, xcx, xec, xcv, xea, xcw, xeb, xcy, xed, xbu, xd9, xc0, xdf, xbv, xda, xby, xdd, xbw, xdb, xbx, xdc, xbz, xde, xcf, xdu, xcl, xe0, xcg, xdv, xcj, xdy, xch, xdw, xci, xdx, xck, xdz, xc1, xdg, xc7, xdm, xc2, xdh, xc5, xdk, xc3, xdi, xc4, xdj, xc6, xdl, xc8, xdn, xce, xdt, xc9, xdo, xcc, xdr, xca, xdp, xcb, xdq, xcd, xds, xcm, xe1, xcs, xe7, xcn, xe2, xcq, xe5, xco, xe3, xcp, xe4, xcr, xe6, x8k, x8l, x8m, x8n, x0s, x0t, x0u, x0v, x0w, x0x, x0y, x3y, x4n, x41, x4e, x44, x4j, x47, x4g, x4m, x40, x4d, x43, x4i, x46, x4h, x3z, x42, x4f, x45, x4k, x48, x37, x3c, x38, x39, x3a, x3b, x1n, x1o, x1p, x1q, x1r, x1s, x1t, x1u, x1k, x1l, x1m, List.getElem?_cons_zero, List.getElem?_cons_succ, List.set_cons_zero, List.set_cons_succ, List.replicate, List.cons_append, List.nil_append, List.take_succ_cons, List.take_zero, List.getD_cons_zero, List.getD_cons_succ, List.map_cons, List.map_nil, if_true, if_false, Bool.true_and, Bool.and_true, Bool.false_and, Bool.and_false, Bool.true_or, Bool.or_true, Bool.false_or, Bool.or_false, Bool.not_true, Bool.not_false, reduceIte, Bool.false_eq_true, eq_self, Nat.sub_self, sc, noL, noLAll, Option.map_some, Int.toNat_natCast, Nat.reduceSub, Nat.reduceAdd, decide_true, decide_false, List.length_cons, List.length_nil, Int.reduceLT, Int.reduceLE, Int.reduceAdd, Int.reduceMul, Int.reduceSub, Int.reduceNeg, Int.reduceToNat, Int.reducePow, Int.reduceMod, Int.reduceDiv, Int.reduceEq, Nat.reducePow, Nat.reduceMul, Nat.reduceLT, Nat.reduceLeDiff, Int.ofNat_zero, Int.natCast_zero, Int.natCast_one, Int.ofNat_eq_natCast, Int.natCast_nonneg, beq_self_eq_true, Option.isNone_none, Option.isNone_some, Bool.not_eq_true, List.append_nil, Option.bind_some, List.lookup_cons, List.contains_nil, List.contains_cons, hw, if_pos (show (0 : Int) < (many : Int) by omega), List.length_map, List.length_append, hl2]
      unfold itemOf
      simp only [List.map_append, List.map_cons, List.map_nil, hw, if_true, Int.natCast_emod, dItem]
    · simp only [x02, x9h, xa1, xa0, x9y, x9z, x9x, x33, x30, x2y, x2z, x32, x31, x52, x50, x4z, x51, x4y, x4w, x4x, xbh, xbm, xbi, xbf, xbg, xbe, xbj, xbl, xbk, xba, xbd, xbb, xbc, x7b, x7c, x7a, x7e, x7d, x78, x79, xb5, xb9, xb6, xb8, xb7, x00, x01, x8j, x8c, x18, x19, x1a, xb3, xb4, x0j, x0g, x0i, x0h, x8d, x8e, x8g, x8f, x82, x83, x84, xat, xar, xas, xal, xak, xap, xao, xan, xam, xeh, x07, x03, x04, x05, x06, x08, x09, x6j, x6c, x6d, x6e, x6f, x6g, x6h, x6i, x2q, x2p, x2r, x2s, xav, xaq, x77, x76, x3m, x3l, xa3, xa4, xab, xac, xad, xae, xaf, xag, xah, xai, xa5, xa6, xa7, xa8, xa9, xaa, xaj, x89, x8a, x8h, x8i, x9m, x9n, x9o, x9p, x9q, x9r, x9s, x6x, x6v, x6w, x20, x1v, x1w, x1y, x1x, x1z, x4v, x4t, x4u, x4q, x4r, x4s, x5b, x1b, x1i, x1h, x1g, x1d, x74, x75, x73, x6z, x6y, x72, x70, x71, x9e, x5k, x5l, x5m, x5n, x8x, x8y, x8z, x90, x91, x92, x93, x2v, x2t, x2u, xei, xej, xek, xel, x8w, x98, x99, xb1, xb2, xb0, xaz, x81, x80, x87, x88, x85, x86, xd1, xd0, x8t, x8s, x6r, x6n, x6p, x6o, x8b, x6k, x6l, x6m, x7z, x1c, x2b, x8v, x9f, x9v, x9w, x9u, x9t, x59, x5a, x8u, x97, x35, x34, x0o, x0a, x0b, x0d, x0c, x0e, x0p, x0q, x0r, x12, x0z, x10, x11, x5o, x5g, x9g, x9a, x9b, x9c, x9d, x0n, x0l, x0m, x36, xef, xeg, x4p, x4o, xax, xay, x53, x55, x54, xaw, xau, x3f, x3e, x3d, x3g, x8p, x8o, x8q, x8r, x7r, x7p, x7q, x7o, x7m, x7k, x7l, x7n, x7i, x7h, x7f, x7g, x14, x16, x17, x15, x13, x1f, x1e, x5j, x5h, x5i, x57, x58, x56, x27, x2a, x29, x28, x9k, x9j, x9l, x9i, x1j, x21, x22, x23, x26, x25, x24, x7v, x7w, x3n, x3h, x3i, x7j, x7s, x7t, x7u, x96, x95, x94, x5e, x5f, x5c, x3p, x3q, x3r, x3s, x3t, x3u, x3v, x3w, x3x, x4a, x4l, x49, x4b, x4c, x3j, x2o, x2j, x2d, x2i, x2m, x2n, x2c, x2h, x2g, x2f, x2e, x2k, x6s, x6u, x6t, x2x, x7y, x2w, x7x, x5u, x5r, x5q, x5v, x5s, x5p, x5t, x6a, x67, x66, x6b, x68, x65, x69, x5z, x5x, x5y, x5w, x60, x64, x63, x61, x62, xbn, xd2, xbt, xd8, xbo, xd3, xbr, xd6, xbp, xd4, xbq, xd5, xbs, xd7, xct, xe8, xcz, xee, xcu, xe9, xcx, xec, xcv, xea, xcw, xeb, xcy, xed, xbu, xd9, xc0, xdf, xbv, xda, xby, xdd, xbw, xdb, xbx, xdc, xbz, xde, xcf, xdu, xcl, xe0, xcg, xdv, xcj, xdy, xch, xdw, xci, xdx, xck, xdz, xc1, xdg, xc7, xdm, xc2, xdh, xc5, xdk, xc3, xdi, xc4, xdj, xc6, xdl, xc8, xdn, xce, xdt, xc9, xdo, xcc, xdr, xca, xdp, xcb, xdq, xcd, xds, xcm, xe1, xcs, xe7, xcn, xe2, xcq, xe5, xco, xe3, xcp, xe4, xcr, xe6, x8k, x8l, x8m, x8n, x0s, x0t, x0u, x0v, x0w, x0x, x0y, x3y, x4n, x41, x4e, x44, x4j, x47, x4g, x4m, x40, x4d, x43, x4i, x46, x4h, x3z, x42, x4f, x45, x4k, x48, x37, x3c, x38, x39, x3a, x3b, x1n, x1o, x1p, x1q, x1r, x1s, x1t, x1u, x1k, x1l, x1m, List.getElem?_cons_zero, List.getElem?_cons_succ, List.set_cons_zero, List.set_cons_succ, List.replicate, List.cons_append, List.nil_append, List.take_succ_cons, List.take_zero, List.getD_cons_zero, List.getD_cons_succ, List.map_cons, List.map_nil, if_true, if_false, Bool.true_and, Bool.and_true, Bool.false_and, Bool.and_false, Bool.true_or, Bool.or_true, Bool.false_or, Bool.or_false, Bool.not_true, Bool.not_false, reduceIte, Bool.false_eq_true, eq_self, Nat.sub_self, sc, noL, noLAll, Option.map_some, Int.toNat_natCast, Nat.reduceSub, Nat.reduceAdd, decide_true, decide_false, List.length_cons, List.length_nil, Int.reduceLT, Int.reduceLE, Int.reduceAdd, Int.reduceMul, Int.reduceSub, Int.reduceNeg, Int.reduceToNat, Int.reducePow, Int.reduceMod, Int.reduceDiv, Int.reduceEq, Nat.reducePow, Nat.reduceMul, Nat.reduceLT, Nat.reduceLeDiff, Int.ofNat_zero, Int.natCast_zero, Int.natCast_one, Int.ofNat_eq_natCast, Int.natCast_nonneg, beq_self_eq_true, Option.isNone_none, Option.isNone_some, Bool.not_eq_true, List.append_nil, Option.bind_some, List.lookup_cons, List.contains_nil, List.contains_cons, hw, if_pos (show (0 : Int) < (many : Int) by omega), List.length_map, List.length_append, hl2]
      unfold itemOf
      simp only [List.map_append, List.map_cons, List.map_nil, hw, if_false, Int.natCast_emod, dItem]) _ ⟨.u, .u, .u, ⟨rfl, rfl, rfl⟩, rfl⟩
  obtain ⟨⟨f3, f4, f5⟩, rfl⟩ := he
  simp only [List.map_nil] at h1
  refine Ev.seq (by simp only [x02, x9h, xa1, xa0, x9y, x9z, x9x, x33, x30, x2y, x2z, x32, x31, x52, x50, x4z, x51, x4y, x4w, x4x, xbh, xbm, xbi, xbf, xbg, xbe, xbj, xbl, xbk, xba, xbd, xbb, xbc, x7b, x7c, x7a, x7e, x7d, x78, x79, xb5, xb9, xb6, xb8, xb7, x00, x01, x8j, x8c, x18, x19, x1a, xb3, xb4, x0j, x0g, x0i, x0h, x8d, x8e, x8g, x8f, x82, x83, x84, xat, xar, xas, xal, xak, xap, xao, xan, xam, xeh, x07, x03, x04, x05, x06, x08, x09, x6j, x6c, x6d, x6e, x6f, x6g, x6h, x6i, x2q, x2p, x2r, x2s, xav, xaq, x77, x76, x3m, x3l, xa3, xa4, xab, xac, xad, xae, xaf, xag, xah, xai, xa5, xa6, xa7, xa8, xa9, xaa, xaj, x89, x8a, x8h, x8i, x9m, x9n, x9o, x9p, x9q, x9r, x9s, x6x, x6v, x6w, x20, x1v, x1w, x1y, x1x, x1z, x4v, x4t, x4u, x4q, x4r, x4s, x5b, x1b, x1i, x1h, x1g, x1d, x74, x75, x73, x6z, x6y, x72, x70, x71, x9e, x5k, x5l, x5m, x5n, x8x, x8y, x8z, x90, x91, x92, x93, x2v, x2t, x2u, xei, xej, xek, xel, x8w, x98, x99, xb1, xb2, xb0, xaz, x81, x80, x87, x88, x85, x86, xd1, xd0, x8t, x8s, x6r, x6n, x6p, x6o, x8b, x6k, x6l, x6m, x7z, x1c, x2b, x8v, x9f, x9v, x9w, x9u, x9t, x59, x5a, x8u, x97, x35, x34, x0o, x0a, x0b, x0d, x0c, x0e, x0p, x0q, x0r, x12, x0z, x10, x11, x5o, x5g, x9g, x9a, x9b, x9c, x9d, x0n, x0l, x0m, x36, xef, xeg, x4p, x4o, xax, xay, x53, x55, x54, xaw, xau, x3f, x3e, x3d, x3g, x8p, x8o, x8q, x8r, x7r, x7p, x7q, x7o, x7m, x7k, x7l, x7n, x7i, x7h, x7f, x7g, x14, x16, x17, x15, x13, x1f, x1e, x5j, x5h, x5i, x57, x58, x56, x27, x2a, x29, x28, x9k, x9j, x9l, x9i, x1j, x21, x22, x23, x26, x25, x24, x7v, x7w, x3n, x3h, x3i, x7j, x7s, x7t, x7u, x96, x95, x94, x5e, x5f, x5c, x3p, x3q, x3r, x3s, x3t, x3u, x3v, x3w, x3x, x4a, x4l, x49, x4b, x4c, x3j, x2o, x2j, x2d, x2i, x2m, x2n, x2c, x2h, x2g, x2f, x2e, x2k, x6s, x6u, x6t, x2x, x7y, x2w, x7x, x5u, x5r, x5q, x5v, x5s, x5p, x5t, x6a, x67, x66, x6b, x68, x65, x69, x5z, x5x, x5y, x5w, x60, x64, x63, x61, x62, xbn, xd2, xbt, xd8, xbo, xd3, xbr, xd6, xbp, xd4, xbq, xd5, xbs, xd7, xct, xe8, xcz, xee, xcu, xe9, xcx, xec, xcv, xea, xcw, xeb, xcy, xed, xbu, xd9, xc0, xdf, xbv, xda, xby, xdd, xbw, xdb, xbx, xdc, xbz, xde, xcf, xdu, xcl, xe0, xcg, xdv, xcj, xdy, xch, xdw, xci, xdx, xck, xdz, xc1, xdg, xc7, xdm, xc2, xdh, xc5, xdk, xc3, xdi, xc4, xdj, xc6, xdl, xc8, xdn, xce, xdt, xc9, xdo, xcc, xdr, xca, xdp, xcb, xdq, xcd, xds, xcm, xe1, xcs, xe7, xcn, xe2, xcq, xe5, xco, xe3, xcp, xe4, xcr, xe6, x8k, x8l, x8m, x8n, x0s, x0t, x0u, x0v, x0w, x0x, x0y, x3y, x4n, x41, x4e, x44, x4j, x47, x4g, x4m, x40, x4d, x43, x4i, x46, x4h, x3z, x42, x4f, x45, x4k, x48, x37, x3c, x38, x39, x3a, x3b, x1n, x1o, x1p, x1q, x1r, x1s, x1t, x1u, x1k, x1l, x1m, List.getElem?_cons_zero, List.getElem?_cons_succ, List.set_cons_zero, List.set_cons_succ, List.replicate, List.cons_append, List.nil_append, List.take_succ_cons, List.take_zero, List.getD_cons_zero, List.getD_cons_succ, List.map_cons, List.map_nil, if_true, if_false, Bool.true_and, Bool.and_true, Bool.false_and, Bool.and_false, Bool.true_or, Bool.or_true, Bool.false_or, Bool.or_false, Bool.not_true, Bool.not_false, reduceIte, Bool.false_eq_true, eq_self, Nat.sub_self, sc, noL, noLAll, Option.map_some, Int.toNat_natCast, Nat.reduceSub, Nat.reduceAdd, decide_true, decide_false, List.length_cons, List.length_nil, Int.reduceLT, Int.reduceLE, Int.reduceAdd, Int.reduceMul, Int.reduceSub, Int.reduceNeg, Int.reduceToNat, Int.reducePow, Int.reduceMod, Int.reduceDiv, Int.reduceEq, Nat.reducePow, Nat.reduceMul, Nat.reduceLT, Nat.reduceLeDiff, Int.ofNat_zero, Int.natCast_zero, Int.natCast_one, Int.ofNat_eq_natCast, Int.natCast_nonneg, beq_self_eq_true, Option.isNone_none, Option.isNone_some, Bool.not_eq_true, List.append_nil, Option.bind_some, List.lookup_cons, List.contains_nil, List.contains_cons, h1] <;> exact rfl) ?_
  exact Ev.ret (by simp only [x02, x9h, xa1, xa0, x9y, x9z, x9x, x33, x30, x2y, x2z, x32, x31, x52, x50, x4z, x51, x4y, x4w, x4x, xbh, xbm, xbi, xbf, xbg, xbe, xbj, xbl, xbk, xba, xbd, xbb, xbc, x7b, x7c, x7a, x7e, x7d, x78, x79, xb5, xb9, xb6, xb8, xb7, x00, x01, x8j, x8c, x18, x19, x1a, xb3, xb4, x0j, x0g, x0i, x0h, x8d, x8e, x8g, x8f, x82, x83, x84, xat, xar, xas, xal, xak, xap, xao, xan, xam, xeh, x07, x03, x04, x05, x06, x08, x09, x6j, x6c, x6d, x6e, x6f, x6g, x6h, x6i, x2q, x2p, x2r, x2s, xav, xaq, x77, x76, x3m, x3l, xa3, xa4, xab, xac, xad, xae, xaf, xag, xah, xai, xa5, xa6, xa7, xa8, xa9, xaa, xaj, x89, x8a, x8h, x8i, x9m, x9n, x9o, x9p, x9q, x9r, x9s, x6x, x6v, x6w, x20, x1v, x1w, x1y, x1x, x1z, x4v, x4t, x4u, x4q, x4r, x4s, x5b, x1b, x1i, x1h, x1g, x1d, x74, x75, x73, x6z, x6y, x72, x70, x71, x9e, x5k, x5l, x5m, x5n, x8x, x8y, x8z, x90, x91, x92, x93, x2v, x2t, x2u, xei, xej, xek, xel, x8w, x98, x99, xb1, xb2, xb0, xaz, x81, x80, x87, x88, x85, x86, xd1, xd0, x8t, x8s, x6r, x6n, x6p, x6o, x8b, x6k, x6l, x6m, x7z, x1c, x2b, x8v, x9f, x9v, x9w, x9u, x9t, x59, x5a, x8u, x97, x35, x34, x0o, x0a, x0b, x0d, x0c, x0e, x0p, x0q, x0r, x12, x0z, x10, x11, x5o, x5g, x9g, x9a, x9b, x9c, x9d, x0n, x0l, x0m, x36, xef, xeg, x4p, x4o, xax, xay, x53, x55, x54, xaw, xau, x3f, x3e, x3d, x3g, x8p, x8o, x8q, x8r, x7r, x7p, x7q, x7o, x7m, x7k, x7l, x7n, x7i, x7h, x7f, x7g, x14, x16, x17, x15, x13, x1f, x1e, x5j, x5h, x5i, x57, x58, x56, x27, x2a, x29, x28, x9k, x9j, x9l, x9i, x1j, x21, x22, x23, x26, x25, x24, x7v, x7w, x3n, x3h, x3i, x7j, x7s, x7t, x7u, x96, x95, x94, x5e, x5f, x5c, x3p, x3q, x3r, x3s, x3t, x3u, x3v, x3w, x3x, x4a, x4l, x49, x4b, x4c, x3j, x2o, x2j, x2d, x2i, x2m, x2n, x2c, x2h, x2g, x2f, x2e, x2k, x6s, x6u, x6t, x2x, x7y, x2w, x7x, x5u, x5r, x5q, x5v, x5s, x5p, x5t, x6a, x67, x66, x6b, x68, x65, x69, x5z, x5x, x5y, x5w, x60, x64, x63, x61, x62, xbn, xd2, xbt, xd8, xbo, xd3, xbr, xd6, xbp, xd4, xbq, xd5, xbs, xd7, xct, xe8, xcz, xee, xcu, xe9, xcx, xec, xcv, xea, xcw, xeb, xcy, xed, xbu, xd9, xc0, xdf, xbv, xda, xby, xdd, xbw, xdb, xbx, xdc, xbz, xde, xcf, xdu, xcl, xe0, xcg, xdv, xcj, xdy, xch, xdw, xci, xdx, xck, xdz, xc1, xdg, xc7, xdm, xc2, xdh, xc5, xdk, xc3, xdi, xc4, xdj, xc6, xdl, xc8, xdn, xce, xdt, xc9, xdo, xcc, xdr, xca, xdp, xcb, xdq, xcd, xds, xcm, xe1, xcs, xe7, xcn, xe2, xcq, xe5, xco, xe3, xcp, xe4, xcr, xe6, x8k, x8l, x8m, x8n, x0s, x0t, x0u, x0v, x0w, x0x, x0y, x3y, x4n, x41, x4e, x44, x4j, x47, x4g, x4m, x40, x4d, x43, x4i, x46, x4h, x3z, x42, x4f, x45, x4k, x48, x37, x3c, x38, x39, x3a, x3b, x1n, x1o, x1p, x1q, x1r, x1s, x1t, x1u, x1k, x1l, x1m, List.getElem?_cons_zero, List.getElem?_cons_succ, List.set_cons_zero, List.set_cons_succ, List.replicate, List.cons_append, List.nil_append, List.take_succ_cons, List.take_zero, List.getD_cons_zero, List.getD_cons_succ, List.map_cons, List.map_nil, if_true, if_false, Bool.true_and, Bool.and_true, Bool.false_and, Bool.and_false, Bool.true_or, Bool.or_true, Bool.false_or, Bool.or_false, Bool.not_true, Bool.not_false, reduceIte, Bool.false_eq_true, eq_self, Nat.sub_self, sc, noL, noLAll, Option.map_some, Int.toNat_natCast, Nat.reduceSub, Nat.reduceAdd, decide_true, decide_false, List.length_cons, List.length_nil, Int.reduceLT, Int.reduceLE, Int.reduceAdd, Int.reduceMul, Int.reduceSub, Int.reduceNeg, Int.reduceToNat, Int.reducePow, Int.reduceMod, Int.reduceDiv, Int.reduceEq, Nat.reducePow, Nat.reduceMul, Nat.reduceLT, Nat.reduceLeDiff, Int.ofNat_zero, Int.natCast_zero, Int.natCast_one, Int.ofNat_eq_natCast, Int.natCast_nonneg, beq_self_eq_true, Option.isNone_none, Option.isNone_some, Bool.not_eq_true, List.append_nil, Option.bind_some, List.lookup_cons, List.contains_nil, List.contains_cons] <;> exact rfl) rfl
theorem pick2 (a b : D) (i : Int) (h0 : 0 ≤ i) (h : i < 2) : ∃ x, atI [a, b] i = some x ∧ (x = a ∨ x = b) := by
  obtain ⟨n, rfl⟩ := Int.eq_ofNat_of_zero_le h0
  have h' : n < 2 := by omega
  match n, h' with
  | 0, _ => exact ⟨a, by simp only [x02, x9h, xa1, xa0, x9y, x9z, x9x, x33, x30, x2y, x2z, x32, x31, x52, x50, x4z, x51, x4y, x4w, x4x, xbh, xbm, xbi, xbf, xbg, xbe, xbj, xbl, xbk, xba, xbd, xbb, xbc, x7b, x7c, x7a, x7e, x7d, x78, x79, xb5, xb9, xb6, xb8, xb7, x00, x01, x8j, x8c, x18, x19, x1a, xb3, xb4, x0j, x0g, x0i, x0h, x8d, x8e, x8g, x8f, x82, x83, x84, xat, xar, xas, xal, xak, xap, xao, xan, xam, xeh, x07, x03, x04, x05, x06, x08, x09, x6j, x6c, x6d, x6e, x6f, x6g, x6h, x6i, x2q, x2p, x2r, x2s, xav, xaq, x77, x76, x3m, x3l, xa3, xa4, xab, xac, xad, xae, xaf, xag, xah, xai, xa5, xa6, xa7, xa8, xa9, xaa, xaj, x89, x8a, x8h, x8i, x9m, x9n, x9o, x9p, x9q, x9r, x9s, x6x, x6v, x6w, x20, x1v, x1w, x1y, x1x, x1z, x4v, x4t, x4u, x4q, x4r, x4s, x5b, x1b, x1i, x1h, x1g, x1d, x74, x75, x73, x6z, x6y, x72, x70, x71, x9e, x5k, x5l, x5m, x5n, x8x, x8y, x8z, x90, x91, x92, x93, x2v, x2t, x2u, xei, xej, xek, xel, x8w, x98, x99, xb1, xb2, xb0, xaz, x81, x80, x87, x88, x85, x86, xd1, xd0, x8t, x8s, x6r, x6n, x6p, x6o, x8b, x6k, x6l, x6m, x7z, x1c, x2b, x8v, x9f, x9v, x9w, x9u, x9t, x59, x5a, x8u, x97, x35, x34, x0o, x0a, x0b, x0d, x0c, x0e, x0p, x0q, x0r, x12, x0z, x10, x11, x5o, x5g, x9g, x9a, x9b, x9c, x9d, x0n, x0l, x0m, x36, xef, xeg, x4p, x4o, xax, xay, x53, x55, x54, xaw, xau, x3f, x3e, x3d, x3g, x8p, x8o, x8q, x8r, x7r, x7p, x7q, x7o, x7m, x7k, x7l, x7n, x7i, x7h, x7f, x7g, x14, x16, x17, x15, x13, x1f, x1e, x5j, x5h, x5i, x57, x58, x56, x27, x2a, x29, x28, x9k, x9j, x9l, x9i, x1j, x21, x22, x23, x26, x25, x24, x7v, x7w, x3n, x3h, x3i, x7j, x7s, x7t, x7u, x96, x95, x94, x5e, x5f, x5c, x3p, x3q, x3r, x3s, x3t, x3u, x3v, x3w, x3x, x4a, x4l, x49, x4b, x4c, x3j, x2o, x2j, x2d, x2i, x2m, x2n, x2c, x2h, x2g, x2f, x2e, x2k, x6s, x6u, x6t, x2x, x7y, x2w, x7x, x5u, x5r, x5q, x5v, x5s, x5p, x5t, x6a, x67, x66, x6b, x68, x65, x69, x5z, x5x, x5y, x5w, x60, x64, x63, x61, x62, xbn, xd2, xbt, xd8, xbo, xd3, xbr, xd6, xbp, xd4, xbq, xd5, xbs, xd7, xct, xe8, xcz, xee, xcu, xe9, xcx, xec, xcv, xea, xcw, xeb, xcy, xed, xbu, xd9, xc0, xdf, xbv, xda, xby, xdd, xbw, xdb, xbx, xdc, xbz, xde, xcf, xdu, xcl, xe0, xcg, xdv, xcj, xdy, xch, xdw, xci, xdx, xck, xdz, xc1, xdg, xc7, xdm, xc2, xdh, xc5, xdk, xc3, xdi, xc4, xdj, xc6, xdl, xc8, xdn, xce, xdt, xc9, xdo, xcc, xdr, xca, xdp, xcb, xdq, xcd, xds, xcm, xe1, xcs, xe7, xcn, xe2, xcq, xe5, xco, xe3, xcp, xe4, xcr, xe6, x8k, x8l, x8m, x8n, x0s, x0t, x0u, x0v, x0w, x0x, x0y, x3y, x4n, x41, x4e, x44, x4j, x47, x4g, x4m, x40, x4d, x43, x4i, x46, x4h, x3z, x42, x4f, x45, x4k, x48, x37, x3c, x38, x39, x3a, x3b, x1n, x1o, x1p, x1q, x1r, x1s, x1t, x1u, x1k, x1l, x1m, List.getElem?_cons_zero, List.getElem?_cons_succ, List.set_cons_zero, List.set_cons_succ, List.replicate, List.cons_append, List.nil_append, List.take_succ_cons, List.take_zero, List.getD_cons_zero, List.getD_cons_succ, List.map_cons, List.map_nil, if_true, if_false, Bool.true_and, Bool.and_true, Bool.false_and, Bool.and_false, Bool.true_or, Bool.or_true, Bool.false_or, Bool.or_false, Bool.not_true, Bool.not_false, reduceIte, Bool.false_eq_true, eq_self, Nat.sub_self, sc, noL, noLAll, Option.map_some, Int.toNat_natCast, Nat.reduceSub, Nat.reduceAdd, decide_true, decide_false, List.length_cons, List.length_nil, Int.reduceLT, Int.reduceLE, Int.reduceAdd, Int.reduceMul, Int.reduceSub, Int.reduceNeg, Int.reduceToNat, Int.reducePow, Int.reduceMod, Int.reduceDiv, Int.reduceEq, Nat.reducePow, Nat.reduceMul, Nat.reduceLT, Nat.reduceLeDiff, Int.ofNat_zero, Int.natCast_zero, Int.natCast_one, Int.ofNat_eq_natCast, Int.natCast_nonneg, beq_self_eq_true, Option.isNone_none, Option.isNone_some, Bool.not_eq_true, List.append_nil, Option.bind_some, List.lookup_cons, List.contains_nil, List.contains_cons], .inl rfl⟩
  | 1, _ => exact ⟨b, by simp only [x02, x9h, xa1, xa0, x9y, x9z, x9x, x33, x30, x2y, x2z, x32, x31, x52, x50, x4z, x51, x4y, x4w, x4x, xbh, xbm, xbi, xbf, xbg, xbe, xbj, xbl, xbk, xba, xbd, xbb, xbc, x7b, x7c, x7a, x7e, x7d, x78, x79, xb5, xb9, xb6, xb8, xb7, x00, x01, x8j, x8c, x18, x19, x1a, xb3, xb4, x0j, x0g, x0i, x0h, x8d, x8e, x8g, x8f, x82, x83, x84, xat, xar, xas, xal, xak, xap, xao, xan, xam, xeh, x07, x03, x04, x05, x06, x08, x09, x6j, x6c, x6d, x6e, x6f, x6g, x6h, x6i, x2q, x2p, x2r, x2s, xav, xaq, x77, x76, x3m, x3l, xa3, xa4, xab, xac, xad, xae, xaf, xag, xah, xai, xa5, xa6, xa7, xa8, xa9, xaa, xaj, x89, x8a, x8h, x8i, x9m, x9n, x9o, x9p, x9q, x9r, x9s, x6x, x6v, x6w, x20, x1v, x1w, x1y, x1x, x1z, x4v, x4t, x4u, x4q, x4r, x4s, x5b, x1b, x1i, x1h, x1g, x1d, x74, x75, x73, x6z, x6y, x72, x70, x71, x9e, x5k, x5l, x5m, x5n, x8x, x8y, x8z, x90, x91, x92, x93, x2v, x2t, x2u, xei, xej, xek, xel, x8w, x98, x99, xb1, xb2, xb0, xaz, x81, x80, x87, x88, x85, x86, xd1, xd0, x8t, x8s, x6r, x6n, x6p, x6o, x8b, x6k, x6l, x6m, x7z, x1c, x2b, x8v, x9f, x9v, x9w, x9u, x9t, x59, x5a, x8u, x97, x35, x34, x0o, x0a, x0b, x0d, x0c, x0e, x0p, x0q, x0r, x12, x0z, x10, x11, x5o, x5g, x9g, x9a, x9b, x9c, x9d, x0n, x0l, x0m, x36, xef, xeg, x4p, x4o, xax, xay, x53, x55, x54, xaw, xau, x3f, x3e, x3d, x3g, x8p, x8o, x8q, x8r, x7r, x7p, x7q, x7o, x7m, x7k, x7l, x7n, x7i, x7h, x7f, x7g, x14, x16, x17, x15, x13, x1f, x1e, x5j, x5h, x5i, x57, x58, x56, x27, x2a, x29, x28, x9k, x9j, x9l, x9i, x1j, x21, x22, x23, x26, x25, x24, x7v, x7w, x3n, x3h, x3i, x7j, x7s, x7t, x7u, x96, x95, x94, x5e, x5f, x5c, x3p, x3q, x3r, x3s, x3t, x3u, x3v, x3w, x3x, x4a, x4l, x49, x4b, x4c, x3j, x2o, x2j, x2d, x2i, x2m, x2n, x2c, x2h, x2g, x2f, x2e, x2k, x6s, x6u, x6t, x2x, x7y, x2w, x7x, x5u, x5r, x5q, x5v, x5s, x5p, x5t, x6a, x67, x66, x6b, x68, x65, x69, x5z, x5x, x5y, x5w, x60, x64, x63, x61, x62, xbn, xd2, xbt, xd8, xbo, xd3, xbr, xd6, xbp, xd4, xbq, xd5, xbs, xd7, xct, xe8, xcz, xee, xcu, xe9, xcx, xec, xcv, xea, xcw, xeb, xcy, xed, xbu, xd9, xc0, xdf, xbv, xda, xby, xdd, xbw, xdb, xbx, xdc, xbz, xde, xcf, xdu, xcl, xe0, xcg, xdv, xcj, xdy, xch, xdw, xci, xdx, xck, xdz, xc1, xdg, xc7, xdm, xc2, xdh, xc5, xdk, xc3, xdi, xc4, xdj, xc6, xdl, xc8, xdn, xce, xdt, xc9, xdo, xcc, xdr, xca, xdp, xcb, xdq, xcd, xds, xcm, xe1, xcs, xe7, xcn, xe2, xcq, xe5, xco, xe3, xcp, xe4, xcr, xe6, x8k, x8l, x8m, x8n, x0s, x0t, x0u, x0v, x0w, x0x, x0y, x3y, x4n, x41, x4e, x44, x4j, x47, x4g, x4m, x40, x4d, x43, x4i, x46, x4h, x3z, x42, x4f, x45, x4k, x48, x37, x3c, x38, x39, x3a, x3b, x1n, x1o, x1p, x1q, x1r, x1s, x1t, x1u, x1k, x1l, x1m, List.getElem?_cons_zero, List.getElem?_cons_succ, List.set_cons_zero, List.set_cons_succ, List.replicate, List.cons_append, List.nil_append, List.take_succ_cons, List.take_zero, List.getD_cons_zero, List.getD_cons_succ, List.map_cons, List.map_nil, if_true, if_false, Bool.true_and, Bool.and_true, Bool.false_and, Bool.and_false, Bool.true_or, Bool.or_true, Bool.false_or, Bool.or_false, Bool.not_true, Bool.not_false, reduceIte, Bool.false_eq_true, eq_self, Nat.sub_self, sc, noL, noLAll, Option.map_some, Int.toNat_natCast, Nat.reduceSub, Nat.reduceAdd, decide_true, decide_false, List.length_cons, List.length_nil, Int.reduceLT, Int.reduceLE, Int.reduceAdd, Int.reduceMul, Int.reduceSub, Int.reduceNeg, Int.reduceToNat, Int.reducePow, Int.reduceMod, Int.reduceDiv, Int.reduceEq, Nat.reducePow, Nat.reduceMul, Nat.reduceLT, Nat.reduceLeDiff, Int.ofNat_zero, Int.natCast_zero, Int.natCast_one, Int.ofNat_eq_natCast, Int.natCast_nonneg, beq_self_eq_true, Option.isNone_none, Option.isNone_some, Bool.not_eq_true, List.append_nil, Option.bind_some, List.lookup_cons, List.contains_nil, List.contains_cons], .inr rfl⟩
theorem pick4 (i : Int) (h0 : 0 ≤ i) (h : i < 4) : ∃ x : Int, atI ([.int 0, .int 1, .int (-1), .int 0] : List D) i = some (.int x) := by
  obtain ⟨n, rfl⟩ := Int.eq_ofNat_of_zero_le h0
  have h' : n < 4 := by omega
  match n, h' with
  | 0, _ => exact ⟨0, by simp only [x02, x9h, xa1, xa0, x9y, x9z, x9x, x33, x30, x2y, x2z, x32, x31, x52, x50, x4z, x51, x4y, x4w, x4x, xbh, xbm, xbi, xbf, xbg, xbe, xbj, xbl, xbk, xba, xbd, xbb, xbc, x7b, x7c, x7a, x7e, x7d, x78, x79, xb5, xb9, xb6, xb8, xb7, x00, x01, x8j, x8c, x18, x19, x1a, xb3, xb4, x0j, x0g, x0i, x0h, x8d, x8e, x8g, x8f, x82, x83, x84, xat, xar, xas, xal, xak, xap, xao, xan, xam, xeh, x07, x03, x04, x05, x06, x08, x09, x6j, x6c, x6d, x6e, x6f, x6g, x6h, x6i, x2q, x2p, x2r, x2s, xav, xaq, x77, x76, x3m, x3l, xa3, xa4, xab, xac, xad, xae, xaf, xag, xah, xai, xa5, xa6, xa7, xa8, xa9, xaa, xaj, x89, x8a, x8h, x8i, x9m, x9n, x9o, x9p, x9q, x9r, x9s, x6x, x6v, x6w, x20, x1v, x1w, x1y, x1x, x1z, x4v, x4t, x4u, x4q, x4r, x4s, x5b, x1b, x1i, x1h, x1g, x1d, x74, x75, x73, x6z, x6y, x72, x70, x71, x9e, x5k, x5l, x5m, x5n, x8x, x8y, x8z, x90, x91, x92, x93, x2v, x2t, x2u, xei, xej, xek, xel, x8w, x98, x99, xb1, xb2, xb0, xaz, x81, x80, x87, x88, x85, x86, xd1, xd0, x8t, x8s, x6r, x6n, x6p, x6o, x8b, x6k, x6l, x6m, x7z, x1c, x2b, x8v, x9f, x9v, x9w, x9u, x9t, x59, x5a, x8u, x97, x35, x34, x0o, x0a, x0b, x0d, x0c, x0e, x0p, x0q, x0r, x12, x0z, x10, x11, x5o, x5g, x9g, x9a, x9b, x9c, x9d, x0n, x0l, x0m, x36, xef, xeg, x4p, x4o, xax, xay, x53, x55, x54, xaw, xau, x3f, x3e, x3d, x3g, x8p, x8o, x8q, x8r, x7r, x7p, x7q, x7o, x7m, x7k, x7l, x7n, x7i, x7h, x7f, x7g, x14, x16, x17, x15, x13, x1f, x1e, x5j, x5h, x5i, x57, x58, x56, x27, x2a, x29, x28, x9k, x9j, x9l, x9i, x1j, x21, x22, x23, x26, x25, x24, x7v, x7w, x3n, x3h, x3i, x7j, x7s, x7t, x7u, x96, x95, x94, x5e, x5f, x5c, x3p, x3q, x3r, x3s, x3t, x3u, x3v, x3w, x3x, x4a, x4l, x49, x4b, x4c, x3j, x2o, x2j, x2d, x2i, x2m, x2n, x2c, x2h, x2g, x2f, x2e, x2k, x6s, x6u, x6t, x2x, x7y, x2w, x7x, x5u, x5r, x5q, x5v, x5s, x5p, x5t, x6a, x67, x66, x6b, x68, x65, x69, x5z, x5x, x5y, x5w, x60, x64, x63, x61, x62, xbn, xd2, xbt, xd8, xbo, xd3, xbr, xd6, xbp, xd4, xbq, xd5, xbs, xd7, xct, xe8, xcz, xee, xcu, xe9, xcx, xec, xcv, xea, xcw, xeb, xcy, xed, xbu, xd9, xc0, xdf, xbv, xda, xby, xdd, xbw, xdb, xbx, xdc, xbz, xde, xcf, xdu, xcl, xe0, xcg, xdv, xcj, xdy, xch, xdw, xci, xdx, xck, xdz, xc1, xdg, xc7, xdm, xc2, xdh, xc5, xdk, xc3, xdi, xc4, xdj, xc6, xdl, xc8, xdn, xce, xdt, xc9, xdo, xcc, xdr, xca, xdp, xcb, xdq, xcd, xds, xcm, xe1, xcs, xe7, xcn, xe2, xcq, xe5, xco, xe3, xcp, xe4, xcr, xe6, x8k, x8l, x8m, x8n, x0s, x0t, x0u, x0v, x0w, x0x, x0y, x3y, x4n, x41, x4e, x44, x4j, x47, x4g, x4m, x40, x4d, x43, x4i, x46, x4h, x3z, x42, x4f, x45, x4k, x48, x37, x3c, x38, x39, x3a, x3b, x1n, x1o, x1p, x1q, x1r, x1s, x1t, x1u, x1k, x1l, x1m, List.getElem?_cons_zero, List.getElem?_cons_succ, List.set_cons_zero, List.set_cons_succ, List.replicate, List.cons_append, List.nil_append, List.take_succ_cons, List.take_zero, List.getD_cons_zero, List.getD_cons_succ, List.map_cons, List.map_nil, if_true, if_false, Bool.true_and, Bool.and_true, Bool.false_and, Bool.and_false, Bool.true_or, Bool.or_true, Bool.false_or, Bool.or_false, Bool.not_true, Bool.not_false, reduceIte, Bool.false_eq_true, eq_self, Nat.sub_self, sc, noL, noLAll, Option.map_some, Int.toNat_natCast, Nat.reduceSub, Nat.reduceAdd, decide_true, decide_false, List.length_cons, List.length_nil, Int.reduceLT, Int.reduceLE, Int.reduceAdd, Int.reduceMul, Int.reduceSub, Int.reduceNeg, Int.reduceToNat, Int.reducePow, Int.reduceMod, Int.reduceDiv, Int.reduceEq, Nat.reducePow, Nat.reduceMul, Nat.reduceLT, Nat.reduceLeDiff, Int.ofNat_zero, Int.natCast_zero, Int.natCast_one, Int.ofNat_eq_natCast, Int.natCast_nonneg, beq_self_eq_true, Option.isNone_none, Option.isNone_some, Bool.not_eq_true, List.append_nil, Option.bind_some, List.lookup_cons, List.contains_nil, List.contains_cons]⟩
  | 1, _ => exact ⟨1, by simp only [x02, x9h, xa1, xa0, x9y, x9z, x9x, x33, x30, x2y, x2z, x32, x31, x52, x50, x4z, x51, x4y, x4w, x4x, xbh, xbm, xbi, xbf, xbg, xbe, xbj, xbl, xbk, xba, xbd, xbb, xbc, x7b, x7c, x7a, x7e, x7d, x78, x79, xb5, xb9, xb6, xb8, xb7, x00, x01, x8j, x8c, x18, x19, x1a, xb3, xb4, x0j, x0g, x0i, x0h, x8d, x8e, x8g, x8f, x82, x83, x84, xat, xar, xas, xal, xak, xap, xao, xan, xam, xeh, x07, x03, x04, x05, x06, x08, x09, x6j, x6c, x6d, x6e, x6f, x6g, x6h, x6i, x2q, x2p, x2r, x2s, xav, xaq, x77, x76, x3m, x3l, xa3, xa4, xab, xac, xad, xae, xaf, xag, xah, xai, xa5, xa6, xa7, xa8, xa9, xaa, xaj, x89, x8a, x8h, x8i, x9m, x9n, x9o, x9p, x9q, x9r, x9s, x6x, x6v, x6w, x20, x1v, x1w, x1y, x1x, x1z, x4v, x4t, x4u, x4q, x4r, x4s, x5b, x1b, x1i, x1h, x1g, x1d, x74, x75, x73, x6z, x6y, x72, x70, x71, x9e, x5k, x5l, x5m, x5n, x8x, x8y, x8z, x90, x91, x92, x93, x2v, x2t, x2u, xei, xej, xek, xel, x8w, x98, x99, xb1, xb2, xb0, xaz, x81, x80, x87, x88, x85, x86, xd1, xd0, x8t, x8s, x6r, x6n, x6p, x6o, x8b, x6k, x6l, x6m, x7z, x1c, x2b, x8v, x9f, x9v, x9w, x9u, x9t, x59, x5a, x8u, x97, x35, x34, x0o, x0a, x0b, x0d, x0c, x0e, x0p, x0q, x0r, x12, x0z, x10, x11, x5o, x5g, x9g, x9a, x9b, x9c, x9d, x0n, x0l, x0m, x36, xef, xeg, x4p, x4o, xax, xay, x53, x55, x54, xaw, xau, x3f, x3e, x3d, x3g, x8p, x8o, x8q, x8r, x7r, x7p, x7q, x7o, x7m, x7k, x7l, x7n, x7i, x7h, x7f, x7g, x14, x16, x17, x15, x13, x1f, x1e, x5j, x5h, x5i, x57, x58, x56, x27, x2a, x29, x28, x9k, x9j, x9l, x9i, x1j, x21, x22, x23, x26, x25, x24, x7v, x7w, x3n, x3h, x3i, x7j, x7s, x7t, x7u, x96, x95, x94, x5e, x5f, x5c, x3p, x3q, x3r, x3s, x3t, x3u, x3v, x3w, x3x, x4a, x4l, x49, x4b, x4c, x3j, x2o, x2j, x2d, x2i, x2m, x2n, x2c, x2h, x2g, x2f, x2e, x2k, x6s, x6u, x6t, x2x, x7y, x2w, x7x, x5u, x5r, x5q, x5v, x5s, x5p, x5t, x6a, x67, x66, x6b, x68, x65, x69, x5z, x5x, x5y, x5w, x60, x64, x63, x61, x62, xbn, xd2, xbt, xd8, xbo, xd3, xbr, xd6, xbp, xd4, xbq, xd5, xbs, xd7, xct, xe8, xcz, xee, xcu, xe9, xcx, xec, xcv, xea, xcw, xeb, xcy, xed, xbu, xd9, xc0, xdf, xbv, xda, xby, xdd, xbw, xdb, xbx, xdc, xbz, xde, xcf, xdu, xcl, xe0, xcg, xdv, xcj, xdy, xch, xdw, xci, xdx, xck, xdz, xc1, xdg, xc7, xdm, xc2, xdh, xc5, xdk, xc3, xdi, xc4, xdj, xc6, xdl, xc8, xdn, xce, xdt, xc9, xdo, xcc, xdr, xca, xdp, xcb, xdq, xcd, xds, xcm, xe1, xcs, xe7, xcn, xe2, xcq, xe5, xco, xe3, xcp, xe4, xcr, xe6, x8k, x8l, x8m, x8n, x0s, x0t, x0u, x0v, x0w, x0x, x0y, x3y, x4n, x41, x4e, x44, x4j, x47, x4g, x4m, x40, x4d, x43, x4i, x46, x4h, x3z, x42, x4f, x45, x4k, x48, x37, x3c, x38, x39, x3a, x3b, x1n, x1o, x1p, x1q, x1r, x1s, x1t, x1u, x1k, x1l, x1m, List.getElem?_cons_zero, List.getElem?_cons_succ, List.set_cons_zero, List.set_cons_succ, List.replicate, List.cons_append, List.nil_append, List.take_succ_cons, List.take_zero, List.getD_cons_zero, List.getD_cons_succ, List.map_cons, List.map_nil, if_true, if_false, Bool.true_and, Bool.and_true, Bool.false_and, Bool.and_false, Bool.true_or, Bool.or_true, Bool.false_or, Bool.or_false, Bool.not_true, Bool.not_false, reduceIte, Bool.false_eq_true, eq_self, Nat.sub_self, sc, noL, noLAll, Option.map_some, Int.toNat_natCast, Nat.reduceSub, Nat.reduceAdd, decide_true, decide_false, List.length_cons, List.length_nil, Int.reduceLT, Int.reduceLE, Int.reduceAdd, Int.reduceMul, Int.reduceSub, Int.reduceNeg, Int.reduceToNat, Int.reducePow, Int.reduceMod, Int.reduceDiv, Int.reduceEq, Nat.reducePow, Nat.reduceMul, Nat.reduceLT, Nat.reduceLeDiff, Int.ofNat_zero, Int.natCast_zero, Int.natCast_one, Int.ofNat_eq_natCast, Int.natCast_nonneg, beq_self_eq_true, Option.isNone_none, Option.isNone_some, Bool.not_eq_true, List.append_nil, Option.bind_some, List.lookup_cons, List.contains_nil, List.contains_cons]⟩
  | 2, _ => exact ⟨-1, by simp only [x02, x9h, xa1, xa0, x9y, x9z, x9x, x33, x30, x2y, x2z, x32, x31, x52, x50, x4z, x51, x4y, x4w, x4x, xbh, xbm, xbi, xbf, xbg, xbe, xbj, xbl, xbk, xba, xbd, xbb, xbc, x7b, x7c, x7a, x7e, x7d, x78, x79, xb5, xb9, xb6, xb8, xb7, x00, x01, x8j, x8c, x18, x19, x1a, xb3, xb4, x0j, x0g, x0i, x0h, x8d, x8e, x8g, x8f, x82, x83, x84, xat, xar, xas, xal, xak, xap, xao, xan, xam, xeh, x07, x03, x04, x05, x06, x08, x09, x6j, x6c, x6d, x6e, x6f, x6g, x6h, x6i, x2q, x2p, x2r, x2s, xav, xaq, x77, x76, x3m, x3l, xa3, xa4, xab, xac, xad, xae, xaf, xag, xah, xai, xa5, xa6, xa7, xa8, xa9, xaa, xaj, x89, x8a, x8h, x8i, x9m, x9n, x9o, x9p, x9q, x9r, x9s, x6x, x6v, x6w, x20, x1v, x1w, x1y, x1x, x1z, x4v, x4t, x4u, x4q, x4r, x4s, x5b, x1b, x1i, x1h, x1g, x1d, x74, x75, x73, x6z, x6y, x72, x70, x71, x9e, x5k, x5l, x5m, x5n, x8x, x8y, x8z, x90, x91, x92, x93, x2v, x2t, x2u, xei, xej, xek, xel, x8w, x98, x99, xb1, xb2, xb0, xaz, x81, x80, x87, x88, x85, x86, xd1, xd0, x8t, x8s, x6r, x6n, x6p, x6o, x8b, x6k, x6l, x6m, x7z, x1c, x2b, x8v, x9f, x9v, x9w, x9u, x9t, x59, x5a, x8u, x97, x35, x34, x0o, x0a, x0b, x0d, x0c, x0e, x0p, x0q, x0r, x12, x0z, x10, x11, x5o, x5g, x9g, x9a, x9b, x9c, x9d, x0n, x0l, x0m, x36, xef, xeg, x4p, x4o, xax, xay, x53, x55, x54, xaw, xau, x3f, x3e, x3d, x3g, x8p, x8o, x8q, x8r, x7r, x7p, x7q, x7o, x7m, x7k, x7l, x7n, x7i, x7h, x7f, x7g, x14, x16, x17, x15, x13, x1f, x1e, x5j, x5h, x5i, x57, x58, x56, x27, x2a, x29, x28, x9k, x9j, x9l, x9i, x1j, x21, x22, x23, x26, x25, x24, x7v, x7w, x3n, x3h, x3i, x7j, x7s, x7t, x7u, x96, x95, x94, x5e, x5f, x5c, x3p, x3q, x3r, x3s, x3t, x3u, x3v, x3w, x3x, x4a, x4l, x49, x4b, x4c, x3j, x2o, x2j, x2d, x2i, x2m, x2n, x2c, x2h, x2g, x2f, x2e, x2k, x6s, x6u, x6t, x2x, x7y, x2w, x7x, x5u, x5r, x5q, x5v, x5s, x5p, x5t, x6a, x67, x66, x6b, x68, x65, x69, x5z, x5x, x5y, x5w, x60, x64, x63, x61, x62, xbn, xd2, xbt, xd8, xbo, xd3, xbr, xd6, xbp, xd4, xbq, xd5, xbs, xd7, xct, xe8, xcz, xee, xcu, xe9, xcx, xec, xcv, xea, xcw, xeb, xcy, xed, xbu, xd9, xc0, xdf, xbv, xda, xby, xdd, xbw, xdb, xbx, xdc, xbz, xde, xcf, xdu, xcl, xe0, xcg, xdv, xcj, xdy, xch, xdw, xci, xdx, xck, xdz, xc1, xdg, xc7, xdm, xc2, xdh, xc5, xdk, xc3, xdi, xc4, xdj, xc6, xdl, xc8, xdn, xce, xdt, xc9, xdo, xcc, xdr, xca, xdp, xcb, xdq, xcd, xds, xcm, xe1, xcs, xe7, xcn, xe2, xcq, xe5, xco, xe3, xcp, xe4, xcr, xe6, x8k, x8l, x8m, x8n, x0s, x0t, x0u, x0v, x0w, x0x, x0y, x3y, x4n, x41, x4e, x44, x4j, x47, x4g, x4m, x40, x4d, x43, x4i, x46, x4h, x3z, x42, x4f, x45, x4k, x48, x37, x3c, x38, x39, x3a, x3b, x1n, x1o, x1p, x1q, x1r, x1s, x1t, x1u, x1k, x1l, x1m, List.getElem?_cons_zero, List.getElem?_cons_succ, List.set_cons_zero, List.set_cons_succ, List.replicate, List.cons_append, List.nil_append, List.take_succ_cons, List.take_zero, List.getD_cons_zero, List.getD_cons_succ, List.map_cons, List.map_nil, if_true, if_false, Bool.true_and, Bool.and_true, Bool.false_and, Bool.and_false, Bool.true_or, Bool.or_true, Bool.false_or, Bool.or_false, Bool.not_true, Bool.not_false, reduceIte, Bool.false_eq_true, eq_self, Nat.sub_self, sc, noL, noLAll, Option.map_some, Int.toNat_natCast, Nat.reduceSub, Nat.reduceAdd, decide_true, decide_false, List.length_cons, List.length_nil, Int.reduceLT, Int.reduceLE, Int.reduceAdd, Int.reduceMul, Int.reduceSub, Int.reduceNeg, Int.reduceToNat, Int.reducePow, Int.reduceMod, Int.reduceDiv, Int.reduceEq, Nat.reducePow, Nat.reduceMul, Nat.reduceLT, Nat.reduceLeDiff, Int.ofNat_zero, Int.natCast_zero, Int.natCast_one, Int.ofNat_eq_natCast, Int.natCast_nonneg, beq_self_eq_true, Option.isNone_none, Option.isNone_some, Bool.not_eq_true, List.append_nil, Option.bind_some, List.lookup_cons, List.contains_nil, List.contains_cons]⟩
  | 3, _ => exact ⟨0, by simp only [x02, x9h, xa1, xa0, x9y, x9z, x9x, x33, x30, x2y, x2z, x32, x31, x52, x50, x4z, x51, x4y, x4w, x4x, xbh, xbm, xbi, xbf, xbg, xbe, xbj, xbl, xbk, xba, xbd, xbb, xbc, x7b, x7c, x7a, x7e, x7d, x78, x79, xb5, xb9, xb6, xb8, xb7, x00, x01, x8j, x8c, x18, x19, x1a, xb3, xb4, x0j, x0g, x0i, x0h, x8d, x8e, x8g, x8f, x82, x83, x84, xat, xar, xas, xal, xak, xap, xao, xan, xam, xeh, x07, x03, x04, x05, x06, x08, x09, x6j, x6c, x6d, x6e, x6f, x6g, x6h, x6i, x2q, x2p, x2r, x2s, xav, xaq, x77, x76, x3m, x3l, xa3, xa4, xab, xac, xad, xae, xaf, xag, xah, xai, xa5, xa6, xa7, xa8, xa9, xaa, xaj, x89, x8a, x8h, x8i, x9m, x9n, x9o, x9p, x9q, x9r, x9s, x6x, x6v, x6w, x20, x1v, x1w, x1y, x1x, x1z, x4v, x4t, x4u, x4q, x4r, x4s, x5b, x1b, x1i, x1h, x1g, x1d, x74, x75, x73, x6z, x6y, x72, x70, x71, x9e, x5k, x5l, x5m, x5n, x8x, x8y, x8z, x90, x91, x92, x93, x2v, x2t, x2u, xei, xej, xek, xel, x8w, x98, x99, xb1, xb2, xb0, xaz, x81, x80, x87, x88, x85, x86, xd1, xd0, x8t, x8s, x6r, x6n, x6p, x6o, x8b, x6k, x6l, x6m, x7z, x1c, x2b, x8v, x9f, x9v, x9w, x9u, x9t, x59, x5a, x8u, x97, x35, x34, x0o, x0a, x0b, x0d, x0c, x0e, x0p, x0q, x0r, x12, x0z, x10, x11, x5o, x5g, x9g, x9a, x9b, x9c, x9d, x0n, x0l, x0m, x36, xef, xeg, x4p, x4o, xax, xay, x53, x55, x54, xaw, xau, x3f, x3e, x3d, x3g, x8p, x8o, x8q, x8r, x7r, x7p, x7q, x7o, x7m, x7k, x7l, x7n, x7i, x7h, x7f, x7g, x14, x16, x17, x15, x13, x1f, x1e, x5j, x5h, x5i, x57, x58, x56, x27, x2a, x29, x28, x9k, x9j, x9l, x9i, x1j, x21, x22, x23, x26, x25, x24, x7v, x7w, x3n, x3h, x3i, x7j, x7s, x7t, x7u, x96, x95, x94, x5e, x5f, x5c, x3p, x3q, x3r, x3s, x3t, x3u, x3v, x3w, x3x, x4a, x4l, x49, x4b, x4c, x3j, x2o, x2j, x2d, x2i, x2m, x2n, x2c, x2h, x2g, x2f, x2e, x2k, x6s, x6u, x6t, x2x, x7y, x2w, x7x, x5u, x5r, x5q, x5v, x5s, x5p, x5t, x6a, x67, x66, x6b, x68, x65, x69, x5z, x5x, x5y, x5w, x60, x64, x63, x61, x62, xbn, xd2, xbt, xd8, xbo, xd3, xbr, xd6, xbp, xd4, xbq, xd5, xbs, xd7, xct, xe8, xcz, xee, xcu, xe9, xcx, xec, xcv, xea, xcw, xeb, xcy, xed, xbu, xd9, xc0, xdf, xbv, xda, xby, xdd, xbw, xdb, xbx, xdc, xbz, xde, xcf, xdu, xcl, xe0, xcg, xdv, xcj, xdy, xch, xdw, xci, xdx, xck, xdz, xc1, xdg, xc7, xdm, xc2, xdh, xc5, xdk, xc3, xdi, xc4, xdj, xc6, xdl, xc8, xdn, xce, xdt, xc9, xdo, xcc, xdr, xca, xdp, xcb, xdq, xcd, xds, xcm, xe1, xcs, xe7, xcn, xe2, xcq, xe5, xco, xe3, xcp, xe4, xcr, xe6, x8k, x8l, x8m, x8n, x0s, x0t, x0u, x0v, x0w, x0x, x0y, x3y, x4n, x41, x4e, x44, x4j, x47, x4g, x4m, x40, x4d, x43, x4i, x46, x4h, x3z, x42, x4f, x45, x4k, x48, x37, x3c, x38, x39, x3a, x3b, x1n, x1o, x1p, x1q, x1r, x1s, x1t, x1u, x1k, x1l, x1m, List.getElem?_cons_zero, List.getElem?_cons_succ, List.set_cons_zero, List.set_cons_succ, List.replicate, List.cons_append, List.nil_append, List.take_succ_cons, List.take_zero, List.getD_cons_zero, List.getD_cons_succ, List.map_cons, List.map_nil, if_true, if_false, Bool.true_and, Bool.and_true, Bool.false_and, Bool.and_false, Bool.true_or, Bool.or_true, Bool.false_or, Bool.or_false, Bool.not_true, Bool.not_false, reduceIte, Bool.false_eq_true, eq_self, Nat.sub_self, sc, noL, noLAll, Option.map_some, Int.toNat_natCast, Nat.reduceSub, Nat.reduceAdd, decide_true, decide_false, List.length_cons, List.length_nil, Int.reduceLT, Int.reduceLE, Int.reduceAdd, Int.reduceMul, Int.reduceSub, Int.reduceNeg, Int.reduceToNat, Int.reducePow, Int.reduceMod, Int.reduceDiv, Int.reduceEq, Nat.reducePow, Nat.reduceMul, Nat.reduceLT, Nat.reduceLeDiff, Int.ofNat_zero, Int.natCast_zero, Int.natCast_one, Int.ofNat_eq_natCast, Int.natCast_nonneg, beq_self_eq_true, Option.isNone_none, Option.isNone_some, Bool.not_eq_true, List.append_nil, Option.bind_some, List.lookup_cons, List.contains_nil, List.contains_cons]⟩
/-- the parts that are asked -/
def rowsOf (k : Int) (its : List (Nat × Int)) (ts : List Nat) : List Part := .least k its :: .most k its :: ts.flatMap fun t => [.inn t, .out t]

theorem rowsOf_len (b : Int) (its : List (Nat × Int)) (us : List Nat) : (rowsOf b its us).length = 2 + 2 * us.length := by
  unfold rowsOf
  simp only [List.length_cons]
  induction us with
  | nil => rfl
  | cons u us ih => simp only [List.flatMap_cons, List.length_append, List.length_cons, List.length_nil] at ih ⊢; omega
theorem rowsOf_snoc (b : Int) (its : List (Nat × Int)) (us : List Nat) (t : Nat) : (rowsOf b its us).map dPart ++ [.tuple [.str "in", .int t]] ++ [.tuple [.str "out", .int t]] = (rowsOf b its (us ++ [t])).map dPart := by
  unfold rowsOf
  simp only [List.map_cons, List.flatMap_append, List.flatMap_cons, List.flatMap_nil, List.append_nil, List.map_append, List.map_nil, List.cons_append, List.append_assoc, List.nil_append]
  rfl
theorem rowsOf_ok {b : Int} {its : List (Nat × Int)} {ts : List Nat} {many : Nat} (oki : ∀ p ∈ its, p.1 < many) (lt1 : ∀ t ∈ ts, t < many) : ∀ p ∈ rowsOf b its ts, p.ok many := fun p hp => by
  unfold rowsOf at hp
  rcases List.mem_cons.mp hp with rfl | hp
  · exact fun t ht => by obtain ⟨q, hq, rfl⟩ := List.mem_map.mp ht; exact oki q hq
  rcases List.mem_cons.mp hp with rfl | hp
  · exact fun t ht => by obtain ⟨q, hq, rfl⟩ := List.mem_map.mp ht; exact oki q hq
  obtain ⟨t, ht, hp⟩ := List.mem_flatMap.mp hp
  have := lt1 t ht
  rcases List.mem_cons.mp hp with rfl | hp
  · exact fun s hs => by rcases List.mem_singleton.mp hs with rfl; exact this
  · rcases List.mem_singleton.mp hp with rfl
    exact fun s hs => by rcases List.mem_singleton.mp hs with rfl; exact this
theorem worth_map (its : List (Nat × Int)) (q : Nat × Int → Bool) (bs : List Bool) (h : ∀ p ∈ its, q p = bs.getD p.1 false) : ((its.filter q).map fun p => PyData.int p.2) = ((its.filter fun p => bs.getD p.1 false).map (·.2)).map PyData.int := by
  rw [List.filter_congr h, List.map_map]; rfl
theorem insOf_get (s : Sheet) (t : Nat) (h : t < s.length) : (insOf s).getD t false = decide (s[t] = some true) := by
  unfold insOf
  rw [List.getD_eq_getElem?_getD, List.getElem?_map, List.getElem?_eq_getElem h]; rfl
theorem maybe_get (s : Sheet) (t : Nat) (h : t < s.length) : (maybe s).getD t false = decide (s[t] ≠ some false) := by
  unfold maybe
  rw [List.getD_eq_getElem?_getD, List.getElem?_map, List.getElem?_eq_getElem h]; rfl
noncomputable def if_l_sheet_1 : MS :=
  (sIf (tst (mVar 5))
    (sApp 3 (mC .none))
    (sApp 3 (mVar 4)))
noncomputable def lp_l_sheet_1 : MS :=
  if_l_sheet_1
noncomputable def b_l_sheet : MS :=
  (sSeq (sAsg 3 (mLst eNil))
  (sSeq (sFor (iZp (mCall f_l_truths [false, false, false] (rCons (mVar 0) (rCons (mVar 2) (rCons (mC (.int 0)) rNil)))) (mCall f_l_truths [false, false, false] (rCons (mVar 1) (rCons (mVar 2) (rCons (mC (.int 1)) rNil))))) (.tup [(.nm 4), (.nm 5)]) lp_l_sheet_1)
  (sRet (mVar 3))))
noncomputable def f_l_sheet : FD := fnSem 3 6 b_l_sheet
/-- a sheet of two rows of truths -/
def shE (p : Bool × Bool) : Option Bool := if p.2 then none else some p.1
def sheetL (a b : List Bool) : Sheet := (a.zip b).map shE
theorem sheetL_len (a b : List Bool) (h : b.length = a.length) : (sheetL a b).length = a.length := by simp [sheetL, h]
theorem r_sheet (a b : Int) (many : Nat) (hm : many ≤ 60) : f_l_sheet [.v false (.int a), .v false (.int b), .v false (.int many)] = some (.o false false true ((sheetL (truthsL a many 0) (truthsL b many 1)).map dOB), [.v false (.int a), .v false (.int b), .v false (.int many)]) := by
  have hz : sizeLine = 16777216 := sizeLine_eq
  have hr := r_truths a many 0 (by decide) (by omega)
  have hw := r_truths b many 1 (by decide) (by omega)
  simp only [x02, x9h, xa1, xa0, x9y, x9z, x9x, x33, x30, x2y, x2z, x32, x31, x52, x50, x4z, x51, x4y, x4w, x4x, xbh, xbm, xbi, xbf, xbg, xbe, xbj, xbl, xbk, xba, xbd, xbb, xbc, x7b, x7c, x7a, x7e, x7d, x78, x79, xb5, xb9, xb6, xb8, xb7, x00, x01, x8j, x8c, x18, x19, x1a, xb3, xb4, x0j, x0g, x0i, x0h, x8d, x8e, x8g, x8f, x82, x83, x84, xat, xar, xas, xal, xak, xap, xao, xan, xam, xeh, x07, x03, x04, x05, x06, x08, x09, x6j, x6c, x6d, x6e, x6f, x6g, x6h, x6i, x2q, x2p, x2r, x2s, xav, xaq, x77, x76, x3m, x3l, xa3, xa4, xab, xac, xad, xae, xaf, xag, xah, xai, xa5, xa6, xa7, xa8, xa9, xaa, xaj, x89, x8a, x8h, x8i, x9m, x9n, x9o, x9p, x9q, x9r, x9s, x6x, x6v, x6w, x20, x1v, x1w, x1y, x1x, x1z, x4v, x4t, x4u, x4q, x4r, x4s, x5b, x1b, x1i, x1h, x1g, x1d, x74, x75, x73, x6z, x6y, x72, x70, x71, x9e, x5k, x5l, x5m, x5n, x8x, x8y, x8z, x90, x91, x92, x93, x2v, x2t, x2u, xei, xej, xek, xel, x8w, x98, x99, xb1, xb2, xb0, xaz, x81, x80, x87, x88, x85, x86, xd1, xd0, x8t, x8s, x6r, x6n, x6p, x6o, x8b, x6k, x6l, x6m, x7z, x1c, x2b, x8v, x9f, x9v, x9w, x9u, x9t, x59, x5a, x8u, x97, x35, x34, x0o, x0a, x0b, x0d, x0c, x0e, x0p, x0q, x0r, x12, x0z, x10, x11, x5o, x5g, x9g, x9a, x9b, x9c, x9d, x0n, x0l, x0m, x36, xef, xeg, x4p, x4o, xax, xay, x53, x55, x54, xaw, xau, x3f, x3e, x3d, x3g, x8p, x8o, x8q, x8r, x7r, x7p, x7q, x7o, x7m, x7k, x7l, x7n, x7i, x7h, x7f, x7g, x14, x16, x17, x15, x13, x1f, x1e, x5j, x5h, x5i, x57, x58, x56, x27, x2a, x29, x28, x9k, x9j, x9l, x9i, x1j, x21, x22, x23, x26, x25, x24, x7v, x7w, x3n, x3h, x3i, x7j, x7s, x7t, x7u, x96, x95, x94, x5e, x5f, x5c, x3p, x3q, x3r, x3s, x3t, x3u, x3v, x3w, x3x, x4a, x4l, x49, x4b, x4c, x3j, x2o, x2j, x2d, x2i, x2m, x2n, x2c, x2h, x2g, x2f, x2e, x2k, x6s, x6u, x6t, x2x, x7y, x2w, x7x, x5u, x5r, x5q, x5v, x5s, x5p, x5t, x6a, x67, x66, x6b, x68, x65, x69, x5z, x5x, x5y, x5w, x60, x64, x63, x61, x62, xbn, xd2, xbt, xd8, xbo, xd3, xbr, xd6, xbp, xd4, xbq, xd5, xbs, xd7, xct, xe8, xcz, xee, xcu, xe9, xcx, xec, xcv, xea, xcw, xeb, xcy, xed, xbu, xd9, xc0, xdf, xbv, xda, xby, xdd, xbw, xdb, xbx, xdc, xbz, xde, xcf, xdu, xcl, xe0, xcg, xdv, xcj, xdy, xch, xdw, xci, xdx, xck, xdz, xc1, xdg, xc7, xdm, xc2, xdh, xc5, xdk, xc3, xdi, xc4, xdj, xc6, xdl, xc8, xdn, xce, xdt, xc9, xdo, xcc, xdr, xca, xdp, xcb, xdq, xcd, xds, xcm, xe1, xcs, xe7, xcn, xe2, xcq, xe5, xco, xe3, xcp, xe4, xcr, xe6, x8k, x8l, x8m, x8n, x0s, x0t, x0u, x0v, x0w, x0x, x0y, x3y, x4n, x41, x4e, x44, x4j, x47, x4g, x4m, x40, x4d, x43, x4i, x46, x4h, x3z, x42, x4f, x45, x4k, x48, x37, x3c, x38, x39, x3a, x3b, x1n, x1o, x1p, x1q, x1r, x1s, x1t, x1u, x1k, x1l, x1m, List.getElem?_cons_zero, List.getElem?_cons_succ, List.set_cons_zero, List.set_cons_succ, List.replicate, List.cons_append, List.nil_append, List.take_succ_cons, List.take_zero, List.getD_cons_zero, List.getD_cons_succ, List.map_cons, List.map_nil, if_true, if_false, Bool.true_and, Bool.and_true, Bool.false_and, Bool.and_false, Bool.true_or, Bool.or_true, Bool.false_or, Bool.or_false, Bool.not_true, Bool.not_false, reduceIte, Bool.false_eq_true, eq_self, Nat.sub_self, sc, noL, noLAll, Option.map_some, Int.toNat_natCast, Nat.reduceSub, Nat.reduceAdd, decide_true, decide_false, List.length_cons, List.length_nil, Int.reduceLT, Int.reduceLE, Int.reduceAdd, Int.reduceMul, Int.reduceSub, Int.reduceNeg, Int.reduceToNat, Int.reducePow, Int.reduceMod, Int.reduceDiv, Int.reduceEq, Nat.reducePow, Nat.reduceMul, Nat.reduceLT, Nat.reduceLeDiff, Int.ofNat_zero, Int.natCast_zero, Int.natCast_one, Int.ofNat_eq_natCast, Int.natCast_nonneg, beq_self_eq_true, Option.isNone_none, Option.isNone_some, Bool.not_eq_true, List.append_nil, Option.bind_some, List.lookup_cons, List.contains_nil, List.contains_cons] at hr hw
  obtain ⟨ri, hri⟩ : ∃ r, r = truthsL a many 0 := ⟨_, rfl⟩
  obtain ⟨wo, hwo⟩ : ∃ r, r = truthsL b many 1 := ⟨_, rfl⟩
  rw [← hri] at hr ⊢
  rw [← hwo] at hw ⊢
  have lri : ri.length = many := by rw [hri, truthsL_len]
  have lwo : wo.length = many := by rw [hwo, truthsL_len]
  have lz : (ri.zip wo).length = many := by rw [List.length_zip, lri, lwo, Nat.min_self]
  unfold f_l_sheet
  refine fn_ev rfl ?_
  unfold b_l_sheet
  simp only [List.cons_append, List.nil_append, List.replicate, Nat.reduceSub]
  refine Ev.seq (e1 := [.v false (.int a), .v false (.int b), .v false (.int many), .o false false true [], .u, .u]) (by simp only [x02, x9h, xa1, xa0, x9y, x9z, x9x, x33, x30, x2y, x2z, x32, x31, x52, x50, x4z, x51, x4y, x4w, x4x, xbh, xbm, xbi, xbf, xbg, xbe, xbj, xbl, xbk, xba, xbd, xbb, xbc, x7b, x7c, x7a, x7e, x7d, x78, x79, xb5, xb9, xb6, xb8, xb7, x00, x01, x8j, x8c, x18, x19, x1a, xb3, xb4, x0j, x0g, x0i, x0h, x8d, x8e, x8g, x8f, x82, x83, x84, xat, xar, xas, xal, xak, xap, xao, xan, xam, xeh, x07, x03, x04, x05, x06, x08, x09, x6j, x6c, x6d, x6e, x6f, x6g, x6h, x6i, x2q, x2p, x2r, x2s, xav, xaq, x77, x76, x3m, x3l, xa3, xa4, xab, xac, xad, xae, xaf, xag, xah, xai, xa5, xa6, xa7, xa8, xa9, xaa, xaj, x89, x8a, x8h, x8i, x9m, x9n, x9o, x9p, x9q, x9r, x9s, x6x, x6v, x6w, x20, x1v, x1w, x1y, x1x, x1z, x4v, x4t, x4u, x4q, x4r, x4s, x5b, x1b, x1i, x1h, x1g, x1d, x74, x75, x73, x6z, x6y, x72, x70, x71, x9e, x5k, x5l, x5m, x5n, x8x, x8y, x8z, x90, x91, x92, x93, x2v, x2t, x2u, xei, xej, xek, xel, x8w, x98, x99, xb1, xb2, xb0, xaz, x81, x80, x87, x88, x85, x86, xd1, xd0, x8t, x8s, x6r, x6n, x6p, x6o, x8b, x6k, x6l, x6m, x7z, x1c, x2b, x8v, x9f, x9v, x9w, x9u, x9t, x59, x5a, x8u, x97, x35, x34, x0o, x0a, x0b, x0d, x0c, x0e, x0p, x0q, x0r, x12, x0z, x10, x11, x5o, x5g, x9g, x9a, x9b, x9c, x9d, x0n, x0l, x0m, x36, xef, xeg, x4p, x4o, xax, xay, x53, x55, x54, xaw, xau, x3f, x3e, x3d, x3g, x8p, x8o, x8q, x8r, x7r, x7p, x7q, x7o, x7m, x7k, x7l, x7n, x7i, x7h, x7f, x7g, x14, x16, x17, x15, x13, x1f, x1e, x5j, x5h, x5i, x57, x58, x56, x27, x2a, x29, x28, x9k, x9j, x9l, x9i, x1j, x21, x22, x23, x26, x25, x24, x7v, x7w, x3n, x3h, x3i, x7j, x7s, x7t, x7u, x96, x95, x94, x5e, x5f, x5c, x3p, x3q, x3r, x3s, x3t, x3u, x3v, x3w, x3x, x4a, x4l, x49, x4b, x4c, x3j, x2o, x2j, x2d, x2i, x2m, x2n, x2c, x2h, x2g, x2f, x2e, x2k, x6s, x6u, x6t, x2x, x7y, x2w, x7x, x5u, x5r, x5q, x5v, x5s, x5p, x5t, x6a, x67, x66, x6b, x68, x65, x69, x5z, x5x, x5y, x5w, x60, x64, x63, x61, x62, xbn, xd2, xbt, xd8, xbo, xd3, xbr, xd6, xbp, xd4, xbq, xd5, xbs, xd7, xct, xe8, xcz, xee, xcu, xe9, xcx, xec, xcv, xea, xcw, xeb, xcy, xed, xbu, xd9, xc0, xdf, xbv, xda, xby, xdd, xbw, xdb, xbx, xdc, xbz, xde, xcf, xdu, xcl, xe0, xcg, xdv, xcj, xdy, xch, xdw, xci, xdx, xck, xdz, xc1, xdg, xc7, xdm, xc2, xdh, xc5, xdk, xc3, xdi, xc4, xdj, xc6, xdl, xc8, xdn, xce, xdt, xc9, xdo, xcc, xdr, xca, xdp, xcb, xdq, xcd, xds, xcm, xe1, xcs, xe7, xcn, xe2, xcq, xe5, xco, xe3, xcp, xe4, xcr, xe6, x8k, x8l, x8m, x8n, x0s, x0t, x0u, x0v, x0w, x0x, x0y, x3y, x4n, x41, x4e, x44, x4j, x47, x4g, x4m, x40, x4d, x43, x4i, x46, x4h, x3z, x42, x4f, x45, x4k, x48, x37, x3c, x38, x39, x3a, x3b, x1n, x1o, x1p, x1q, x1r, x1s, x1t, x1u, x1k, x1l, x1m, List.getElem?_cons_zero, List.getElem?_cons_succ, List.set_cons_zero, List.set_cons_succ, List.replicate, List.cons_append, List.nil_append, List.take_succ_cons, List.take_zero, List.getD_cons_zero, List.getD_cons_succ, List.map_cons, List.map_nil, if_true, if_false, Bool.true_and, Bool.and_true, Bool.false_and, Bool.and_false, Bool.true_or, Bool.or_true, Bool.false_or, Bool.or_false, Bool.not_true, Bool.not_false, reduceIte, Bool.false_eq_true, eq_self, Nat.sub_self, sc, noL, noLAll, Option.map_some, Int.toNat_natCast, Nat.reduceSub, Nat.reduceAdd, decide_true, decide_false, List.length_cons, List.length_nil, Int.reduceLT, Int.reduceLE, Int.reduceAdd, Int.reduceMul, Int.reduceSub, Int.reduceNeg, Int.reduceToNat, Int.reducePow, Int.reduceMod, Int.reduceDiv, Int.reduceEq, Nat.reducePow, Nat.reduceMul, Nat.reduceLT, Nat.reduceLeDiff, Int.ofNat_zero, Int.natCast_zero, Int.natCast_one, Int.ofNat_eq_natCast, Int.natCast_nonneg, beq_self_eq_true, Option.isNone_none, Option.isNone_some, Bool.not_eq_true, List.append_nil, Option.bind_some, List.lookup_cons, List.contains_nil, List.contains_cons]) ?_
  obtain ⟨e, h1, t3, t4, ⟨f3, f4⟩, he⟩ := forLoop_inv (tg := .tup [.nm 4, .nm 5]) (body := lp_l_sheet_1) (f := true) (fun p : Bool × Bool => PyData.tuple [.bool p.1, .bool p.2]) (fun pre e => ∃ t3 t4, (frS (some t3) = true ∧ frS (some t4) = true) ∧ e = [.v false (.int a), .v false (.int b), .v false (.int many), .o false false true ((pre.map shE).map dOB), t3, t4]) (ri.zip wo) (fun pre p post e hx ⟨t3, t4, ⟨f3, f4⟩, he⟩ => by
    subst he
    have hl : pre.length < (ri.zip wo).length := by rw [hx, List.length_append, List.length_cons]; omega
    have hl2 : pre.length < sizeLine := by omega
    obtain ⟨x, y⟩ := p
    refine ⟨_, ?_, .v true (.bool x), .v true (.bool y), ⟨rfl, rfl⟩, rfl⟩
    unfold lp_l_sheet_1 if_l_sheet_1
    cases y <;> (simp only [x02, x9h, xa1, xa0, x9y, x9z, x9x, x33, x30, x2y, x2z, x32, x31, x52, x50, x4z, x51, x4y, x4w, x4x, xbh, xbm, xbi, xbf, xbg, xbe, xbj, xbl, xbk, xba, xbd, xbb, xbc, x7b, x7c, x7a, x7e, x7d, x78, x79, xb5, xb9, xb6, xb8, xb7, x00, x01, x8j, x8c, x18, x19, x1a, xb3, xb4, x0j, x0g, x0i, x0h, x8d, x8e, x8g, x8f, x82, x83, x84, xat, xar, xas, xal, xak, xap, xao, xan, xam, xeh, x07, x03, x04, x05, x06, x08, x09, x6j, x6c, x6d, x6e, x6f, x6g, x6h, x6i, x2q, x2p, x2r, x2s, xav, xaq, x77, x76, x3m, x3l, xa3, xa4, xab, xac, xad, xae, xaf, xag, xah, xai, xa5, xa6, xa7, xa8, xa9, xaa, xaj, x89, x8a, x8h, x8i, x9m, x9n, x9o, x9p, x9q, x9r, x9s, x6x, x6v, x6w, x20, x1v, x1w, x1y, x1x, x1z, x4v, x4t, x4u, x4q, x4r, x4s, x5b, x1b, x1i, x1h, x1g, x1d, x74, x75, x73, x6z, x6y, x72, x70, x71, x9e, x5k, x5l, x5m, x5n, x8x, x8y, x8z, x90, x91, x92, x93, x2v, x2t, x2u, xei, xej, xek, xel, x8w, x98, x99, xb1, xb2, xb0, xaz, x81, x80, x87, x88, x85, x86, xd1, xd0, x8t, x8s, x6r, x6n, x6p, x6o, x8b, x6k, x6l, x6m, x7z, x1c, x2b, x8v, x9f, x9v, x9w, x9u, x9t, x59, x5a, x8u, x97, x35, x34, x0o, x0a, x0b, x0d, x0c, x0e, x0p, x0q, x0r, x12, x0z, x10, x11, x5o, x5g, x9g, x9a, x9b, x9c, x9d, x0n, x0l, x0m, x36, xef, xeg, x4p, x4o, xax, xay, x53, x55, x54, xaw, xau, x3f, x3e, x3d, x3g, x8p, x8o, x8q, x8r, x7r, x7p, x7q, x7o, x7m, x7k, x7l, x7n, x7i, x7h, x7f, x7g, x14, x16, x17, x15, x13, x1f, x1e, x5j, x5h, x5i, x57, x58, x56, x27, x2a, x29, x28, x9k, x9j, x9l, x9i, x1j, x21, x22, x23, x26, x25, x24, x7v, x7w, x3n, x3h, x3i, x7j, x7s, x7t, x7u, x96, x95, x94, x5e, x5f, x5c, x3p, x3q, x3r, x3s, x3t, x3u, x3v, x3w, x3x, x4a, x4l, x49, x4b, x4c, x3j, x2o, x2j, x2d, x2i, x2m, x2n, x2c, x2h, x2g, x2f, x2e, x2k, x6s, x6u, x6t, x2x, x7y, x2w, x7x, x5u, x5r, x5q, x5v, x5s, x5p, x5t, x6a, x67, x66, x6b, x68, x65, x69, x5z, x5x, x5y, x5w, x60, x64, x63, x61, x62, xbn, xd2, xbt, xd8, xbo, xd3, xbr, xd6, xbp, xd4, xbq, xd5, xbs, xd7, xct, xe8, xcz, xee, xcu, xe9, xcx, xec, xcv, xea, xcw, xeb, xcy, xed, xbu, xd9, xc0, xdf, xbv, xda, xby, xdd, xbw, xdb, xbx, xdc, xbz, xde, xcf, xdu, xcl, xe0, xcg, xdv, xcj, xdy, xch, xdw, xci, xdx, xck, xdz, xc1, xdg, xc7, xdm, xc2, xdh, xc5, xdk, xc3, xdi, xc4, xdj, xc6, xdl, xc8, xdn, xce, xdt, xc9, xdo, xcc, xdr, xca, xdp, xcb, xdq, xcd, xds, xcm, xe1, xcs, xe7, xcn, xe2, xcq, xe5, xco, xe3, xcp, xe4, xcr, xe6, x8k, x8l, x8m, x8n, x0s, x0t, x0u, x0v, x0w, x0x, x0y, x3y, x4n, x41, x4e, x44, x4j, x47, x4g, x4m, x40, x4d, x43, x4i, x46, x4h, x3z, x42, x4f, x45, x4k, x48, x37, x3c, x38, x39, x3a, x3b, x1n, x1o, x1p, x1q, x1r, x1s, x1t, x1u, x1k, x1l, x1m, List.getElem?_cons_zero, List.getElem?_cons_succ, List.set_cons_zero, List.set_cons_succ, List.replicate, List.cons_append, List.nil_append, List.take_succ_cons, List.take_zero, List.getD_cons_zero, List.getD_cons_succ, List.map_cons, List.map_nil, if_true, if_false, Bool.true_and, Bool.and_true, Bool.false_and, Bool.and_false, Bool.true_or, Bool.or_true, Bool.false_or, Bool.or_false, Bool.not_true, Bool.not_false, reduceIte, Bool.false_eq_true, eq_self, Nat.sub_self, sc, noL, noLAll, Option.map_some, Int.toNat_natCast, Nat.reduceSub, Nat.reduceAdd, decide_true, decide_false, List.length_cons, List.length_nil, Int.reduceLT, Int.reduceLE, Int.reduceAdd, Int.reduceMul, Int.reduceSub, Int.reduceNeg, Int.reduceToNat, Int.reducePow, Int.reduceMod, Int.reduceDiv, Int.reduceEq, Nat.reducePow, Nat.reduceMul, Nat.reduceLT, Nat.reduceLeDiff, Int.ofNat_zero, Int.natCast_zero, Int.natCast_one, Int.ofNat_eq_natCast, Int.natCast_nonneg, beq_self_eq_true, Option.isNone_none, Option.isNone_some, Bool.not_eq_true, List.append_nil, Option.bind_some, List.lookup_cons, List.contains_nil, List.contains_cons, f3, f4, List.length_map, hl2, List.map_append]; rfl)) _ ⟨.u, .u, ⟨rfl, rfl⟩, rfl⟩
  subst he
  simp only [List.map_nil] at h1
  refine Ev.seq (by
    simp only [x02, x9h, xa1, xa0, x9y, x9z, x9x, x33, x30, x2y, x2z, x32, x31, x52, x50, x4z, x51, x4y, x4w, x4x, xbh, xbm, xbi, xbf, xbg, xbe, xbj, xbl, xbk, xba, xbd, xbb, xbc, x7b, x7c, x7a, x7e, x7d, x78, x79, xb5, xb9, xb6, xb8, xb7, x00, x01, x8j, x8c, x18, x19, x1a, xb3, xb4, x0j, x0g, x0i, x0h, x8d, x8e, x8g, x8f, x82, x83, x84, xat, xar, xas, xal, xak, xap, xao, xan, xam, xeh, x07, x03, x04, x05, x06, x08, x09, x6j, x6c, x6d, x6e, x6f, x6g, x6h, x6i, x2q, x2p, x2r, x2s, xav, xaq, x77, x76, x3m, x3l, xa3, xa4, xab, xac, xad, xae, xaf, xag, xah, xai, xa5, xa6, xa7, xa8, xa9, xaa, xaj, x89, x8a, x8h, x8i, x9m, x9n, x9o, x9p, x9q, x9r, x9s, x6x, x6v, x6w, x20, x1v, x1w, x1y, x1x, x1z, x4v, x4t, x4u, x4q, x4r, x4s, x5b, x1b, x1i, x1h, x1g, x1d, x74, x75, x73, x6z, x6y, x72, x70, x71, x9e, x5k, x5l, x5m, x5n, x8x, x8y, x8z, x90, x91, x92, x93, x2v, x2t, x2u, xei, xej, xek, xel, x8w, x98, x99, xb1, xb2, xb0, xaz, x81, x80, x87, x88, x85, x86, xd1, xd0, x8t, x8s, x6r, x6n, x6p, x6o, x8b, x6k, x6l, x6m, x7z, x1c, x2b, x8v, x9f, x9v, x9w, x9u, x9t, x59, x5a, x8u, x97, x35, x34, x0o, x0a, x0b, x0d, x0c, x0e, x0p, x0q, x0r, x12, x0z, x10, x11, x5o, x5g, x9g, x9a, x9b, x9c, x9d, x0n, x0l, x0m, x36, xef, xeg, x4p, x4o, xax, xay, x53, x55, x54, xaw, xau, x3f, x3e, x3d, x3g, x8p, x8o, x8q, x8r, x7r, x7p, x7q, x7o, x7m, x7k, x7l, x7n, x7i, x7h, x7f, x7g, x14, x16, x17, x15, x13, x1f, x1e, x5j, x5h, x5i, x57, x58, x56, x27, x2a, x29, x28, x9k, x9j, x9l, x9i, x1j, x21, x22, x23, x26, x25, x24, x7v, x7w, x3n, x3h, x3i, x7j, x7s, x7t, x7u, x96, x95, x94, x5e, x5f, x5c, x3p, x3q, x3r, x3s, x3t, x3u, x3v, x3w, x3x, x4a, x4l, x49, x4b, x4c, x3j, x2o, x2j, x2d, x2i, x2m, x2n, x2c, x2h, x2g, x2f, x2e, x2k, x6s, x6u, x6t, x2x, x7y, x2w, x7x, x5u, x5r, x5q, x5v, x5s, x5p, x5t, x6a, x67, x66, x6b, x68, x65, x69, x5z, x5x, x5y, x5w, x60, x64, x63, x61, x62, xbn, xd2, xbt, xd8, xbo, xd3, xbr, xd6, xbp, xd4, xbq, xd5, xbs, xd7, xct, xe8, xcz, xee, xcu, xe9, xcx, xec, xcv, xea, xcw, xeb, xcy, xed, xbu, xd9, xc0, xdf, xbv, xda, xby, xdd, xbw, xdb, xbx, xdc, xbz, xde, xcf, xdu, xcl, xe0, xcg, xdv, xcj, xdy, xch, xdw, xci, xdx, xck, xdz, xc1, xdg, xc7, xdm, xc2, xdh, xc5, xdk, xc3, xdi, xc4, xdj, xc6, xdl, xc8, xdn, xce, xdt, xc9, xdo, xcc, xdr, xca, xdp, xcb, xdq, xcd, xds, xcm, xe1, xcs, xe7, xcn, xe2, xcq, xe5, xco, xe3, xcp, xe4, xcr, xe6, x8k, x8l, x8m, x8n, x0s, x0t, x0u, x0v, x0w, x0x, x0y, x3y, x4n, x41, x4e, x44, x4j, x47, x4g, x4m, x40, x4d, x43, x4i, x46, x4h, x3z, x42, x4f, x45, x4k, x48, x37, x3c, x38, x39, x3a, x3b, x1n, x1o, x1p, x1q, x1r, x1s, x1t, x1u, x1k, x1l, x1m, List.getElem?_cons_zero, List.getElem?_cons_succ, List.set_cons_zero, List.set_cons_succ, List.replicate, List.cons_append, List.nil_append, List.take_succ_cons, List.take_zero, List.getD_cons_zero, List.getD_cons_succ, List.map_cons, List.map_nil, if_true, if_false, Bool.true_and, Bool.and_true, Bool.false_and, Bool.and_false, Bool.true_or, Bool.or_true, Bool.false_or, Bool.or_false, Bool.not_true, Bool.not_false, reduceIte, Bool.false_eq_true, eq_self, Nat.sub_self, sc, noL, noLAll, Option.map_some, Int.toNat_natCast, Nat.reduceSub, Nat.reduceAdd, decide_true, decide_false, List.length_cons, List.length_nil, Int.reduceLT, Int.reduceLE, Int.reduceAdd, Int.reduceMul, Int.reduceSub, Int.reduceNeg, Int.reduceToNat, Int.reducePow, Int.reduceMod, Int.reduceDiv, Int.reduceEq, Nat.reducePow, Nat.reduceMul, Nat.reduceLT, Nat.reduceLeDiff, Int.ofNat_zero, Int.natCast_zero, Int.natCast_one, Int.ofNat_eq_natCast, Int.natCast_nonneg, beq_self_eq_true, Option.isNone_none, Option.isNone_some, Bool.not_eq_true, List.append_nil, Option.bind_some, List.lookup_cons, List.contains_nil, List.contains_cons, hr, hw, sc_bools]
    rw [show zipD (ri.map PyData.bool) (wo.map PyData.bool) = (ri.zip wo).map (fun p => PyData.tuple [.bool p.1, .bool p.2]) from by
      unfold zipD; rw [List.zipWith_map, List.zip, List.map_zipWith]]
    simp only [x02, x9h, xa1, xa0, x9y, x9z, x9x, x33, x30, x2y, x2z, x32, x31, x52, x50, x4z, x51, x4y, x4w, x4x, xbh, xbm, xbi, xbf, xbg, xbe, xbj, xbl, xbk, xba, xbd, xbb, xbc, x7b, x7c, x7a, x7e, x7d, x78, x79, xb5, xb9, xb6, xb8, xb7, x00, x01, x8j, x8c, x18, x19, x1a, xb3, xb4, x0j, x0g, x0i, x0h, x8d, x8e, x8g, x8f, x82, x83, x84, xat, xar, xas, xal, xak, xap, xao, xan, xam, xeh, x07, x03, x04, x05, x06, x08, x09, x6j, x6c, x6d, x6e, x6f, x6g, x6h, x6i, x2q, x2p, x2r, x2s, xav, xaq, x77, x76, x3m, x3l, xa3, xa4, xab, xac, xad, xae, xaf, xag, xah, xai, xa5, xa6, xa7, xa8, xa9, xaa, xaj, x89, x8a, x8h, x8i, x9m, x9n, x9o, x9p, x9q, x9r, x9s, x6x, x6v, x6w, x20, x1v, x1w, x1y, x1x, x1z, x4v, x4t, x4u, x4q, x4r, x4s, x5b, x1b, x1i, x1h, x1g, x1d, x74, x75, x73, x6z, x6y, x72, x70, x71, x9e, x5k, x5l, x5m, x5n, x8x, x8y, x8z, x90, x91, x92, x93, x2v, x2t, x2u, xei, xej, xek, xel, x8w, x98, x99, xb1, xb2, xb0, xaz, x81, x80, x87, x88, x85, x86, xd1, xd0, x8t, x8s, x6r, x6n, x6p, x6o, x8b, x6k, x6l, x6m, x7z, x1c, x2b, x8v, x9f, x9v, x9w, x9u, x9t, x59, x5a, x8u, x97, x35, x34, x0o, x0a, x0b, x0d, x0c, x0e, x0p, x0q, x0r, x12, x0z, x10, x11, x5o, x5g, x9g, x9a, x9b, x9c, x9d, x0n, x0l, x0m, x36, xef, xeg, x4p, x4o, xax, xay, x53, x55, x54, xaw, xau, x3f, x3e, x3d, x3g, x8p, x8o, x8q, x8r, x7r, x7p, x7q, x7o, x7m, x7k, x7l, x7n, x7i, x7h, x7f, x7g, x14, x16, x17, x15, x13, x1f, x1e, x5j, x5h, x5i, x57, x58, x56, x27, x2a, x29, x28, x9k, x9j, x9l, x9i, x1j, x21, x22, x23, x26, x25, x24, x7v, x7w, x3n, x3h, x3i, x7j, x7s, x7t, x7u, x96, x95, x94, x5e, x5f, x5c, x3p, x3q, x3r, x3s, x3t, x3u, x3v, x3w, x3x, x4a, x4l, x49, x4b, x4c, x3j, x2o, x2j, x2d, x2i, x2m, x2n, x2c, x2h, x2g, x2f, x2e, x2k, x6s, x6u, x6t, x2x, x7y, x2w, x7x, x5u, x5r, x5q, x5v, x5s, x5p, x5t, x6a, x67, x66, x6b, x68, x65, x69, x5z, x5x, x5y, x5w, x60, x64, x63, x61, x62, xbn, xd2, xbt, xd8, xbo, xd3, xbr, xd6, xbp, xd4, xbq, xd5, xbs, xd7, xct, xe8, xcz, xee, xcu, xe9, xcx, xec, xcv, xea, xcw, xeb, xcy, xed, xbu, xd9, xc0, xdf, xbv, xda, xby, xdd, xbw, xdb, xbx, xdc, xbz, xde, xcf, xdu, xcl, xe0, xcg, xdv, xcj, xdy, xch, xdw, xci, xdx, xck, xdz, xc1, xdg, xc7, xdm, xc2, xdh, xc5, xdk, xc3, xdi, xc4, xdj, xc6, xdl, xc8, xdn, xce, xdt, xc9, xdo, xcc, xdr, xca, xdp, xcb, xdq, xcd, xds, xcm, xe1, xcs, xe7, xcn, xe2, xcq, xe5, xco, xe3, xcp, xe4, xcr, xe6, x8k, x8l, x8m, x8n, x0s, x0t, x0u, x0v, x0w, x0x, x0y, x3y, x4n, x41, x4e, x44, x4j, x47, x4g, x4m, x40, x4d, x43, x4i, x46, x4h, x3z, x42, x4f, x45, x4k, x48, x37, x3c, x38, x39, x3a, x3b, x1n, x1o, x1p, x1q, x1r, x1s, x1t, x1u, x1k, x1l, x1m, List.getElem?_cons_zero, List.getElem?_cons_succ, List.set_cons_zero, List.set_cons_succ, List.replicate, List.cons_append, List.nil_append, List.take_succ_cons, List.take_zero, List.getD_cons_zero, List.getD_cons_succ, List.map_cons, List.map_nil, if_true, if_false, Bool.true_and, Bool.and_true, Bool.false_and, Bool.and_false, Bool.true_or, Bool.or_true, Bool.false_or, Bool.or_false, Bool.not_true, Bool.not_false, reduceIte, Bool.false_eq_true, eq_self, Nat.sub_self, sc, noL, noLAll, Option.map_some, Int.toNat_natCast, Nat.reduceSub, Nat.reduceAdd, decide_true, decide_false, List.length_cons, List.length_nil, Int.reduceLT, Int.reduceLE, Int.reduceAdd, Int.reduceMul, Int.reduceSub, Int.reduceNeg, Int.reduceToNat, Int.reducePow, Int.reduceMod, Int.reduceDiv, Int.reduceEq, Nat.reducePow, Nat.reduceMul, Nat.reduceLT, Nat.reduceLeDiff, Int.ofNat_zero, Int.natCast_zero, Int.natCast_one, Int.ofNat_eq_natCast, Int.natCast_nonneg, beq_self_eq_true, Option.isNone_none, Option.isNone_some, Bool.not_eq_true, List.append_nil, Option.bind_some, List.lookup_cons, List.contains_nil, List.contains_cons, h1]
    exact rfl) ?_
  exact Ev.ret (by simp only [x02, x9h, xa1, xa0, x9y, x9z, x9x, x33, x30, x2y, x2z, x32, x31, x52, x50, x4z, x51, x4y, x4w, x4x, xbh, xbm, xbi, xbf, xbg, xbe, xbj, xbl, xbk, xba, xbd, xbb, xbc, x7b, x7c, x7a, x7e, x7d, x78, x79, xb5, xb9, xb6, xb8, xb7, x00, x01, x8j, x8c, x18, x19, x1a, xb3, xb4, x0j, x0g, x0i, x0h, x8d, x8e, x8g, x8f, x82, x83, x84, xat, xar, xas, xal, xak, xap, xao, xan, xam, xeh, x07, x03, x04, x05, x06, x08, x09, x6j, x6c, x6d, x6e, x6f, x6g, x6h, x6i, x2q, x2p, x2r, x2s, xav, xaq, x77, x76, x3m, x3l, xa3, xa4, xab, xac, xad, xae, xaf, xag, xah, xai, xa5, xa6, xa7, xa8, xa9, xaa, xaj, x89, x8a, x8h, x8i, x9m, x9n, x9o, x9p, x9q, x9r, x9s, x6x, x6v, x6w, x20, x1v, x1w, x1y, x1x, x1z, x4v, x4t, x4u, x4q, x4r, x4s, x5b, x1b, x1i, x1h, x1g, x1d, x74, x75, x73, x6z, x6y, x72, x70, x71, x9e, x5k, x5l, x5m, x5n, x8x, x8y, x8z, x90, x91, x92, x93, x2v, x2t, x2u, xei, xej, xek, xel, x8w, x98, x99, xb1, xb2, xb0, xaz, x81, x80, x87, x88, x85, x86, xd1, xd0, x8t, x8s, x6r, x6n, x6p, x6o, x8b, x6k, x6l, x6m, x7z, x1c, x2b, x8v, x9f, x9v, x9w, x9u, x9t, x59, x5a, x8u, x97, x35, x34, x0o, x0a, x0b, x0d, x0c, x0e, x0p, x0q, x0r, x12, x0z, x10, x11, x5o, x5g, x9g, x9a, x9b, x9c, x9d, x0n, x0l, x0m, x36, xef, xeg, x4p, x4o, xax, xay, x53, x55, x54, xaw, xau, x3f, x3e, x3d, x3g, x8p, x8o, x8q, x8r, x7r, x7p, x7q, x7o, x7m, x7k, x7l, x7n, x7i, x7h, x7f, x7g, x14, x16, x17, x15, x13, x1f, x1e, x5j, x5h, x5i, x57, x58, x56, x27, x2a, x29, x28, x9k, x9j, x9l, x9i, x1j, x21, x22, x23, x26, x25, x24, x7v, x7w, x3n, x3h, x3i, x7j, x7s, x7t, x7u, x96, x95, x94, x5e, x5f, x5c, x3p, x3q, x3r, x3s, x3t, x3u, x3v, x3w, x3x, x4a, x4l, x49, x4b, x4c, x3j, x2o, x2j, x2d, x2i, x2m, x2n, x2c, x2h, x2g, x2f, x2e, x2k, x6s, x6u, x6t, x2x, x7y, x2w, x7x, x5u, x5r, x5q, x5v, x5s, x5p, x5t, x6a, x67, x66, x6b, x68, x65, x69, x5z, x5x, x5y, x5w, x60, x64, x63, x61, x62, xbn, xd2, xbt, xd8, xbo, xd3, xbr, xd6, xbp, xd4, xbq, xd5, xbs, xd7, xct, xe8, xcz, xee, xcu, xe9, xcx, xec, xcv, xea, xcw, xeb, xcy, xed, xbu, xd9, xc0, xdf, xbv, xda, xby, xdd, xbw, xdb, xbx, xdc, xbz, xde, xcf, xdu, xcl, xe0, xcg, xdv, xcj, xdy, xch, xdw, xci, xdx, xck, xdz, xc1, xdg, xc7, xdm, xc2, xdh, xc5, xdk, xc3, xdi, xc4, xdj, xc6, xdl, xc8, xdn, xce, xdt, xc9, xdo, xcc, xdr, xca, xdp, xcb, xdq, xcd, xds, xcm, xe1, xcs, xe7, xcn, xe2, xcq, xe5, xco, xe3, xcp, xe4, xcr, xe6, x8k, x8l, x8m, x8n, x0s, x0t, x0u, x0v, x0w, x0x, x0y, x3y, x4n, x41, x4e, x44, x4j, x47, x4g, x4m, x40, x4d, x43, x4i, x46, x4h, x3z, x42, x4f, x45, x4k, x48, x37, x3c, x38, x39, x3a, x3b, x1n, x1o, x1p, x1q, x1r, x1s, x1t, x1u, x1k, x1l, x1m, List.getElem?_cons_zero, List.getElem?_cons_succ, List.set_cons_zero, List.set_cons_succ, List.replicate, List.cons_append, List.nil_append, List.take_succ_cons, List.take_zero, List.getD_cons_zero, List.getD_cons_succ, List.map_cons, List.map_nil, if_true, if_false, Bool.true_and, Bool.and_true, Bool.false_and, Bool.and_false, Bool.true_or, Bool.or_true, Bool.false_or, Bool.or_false, Bool.not_true, Bool.not_false, reduceIte, Bool.false_eq_true, eq_self, Nat.sub_self, sc, noL, noLAll, Option.map_some, Int.toNat_natCast, Nat.reduceSub, Nat.reduceAdd, decide_true, decide_false, List.length_cons, List.length_nil, Int.reduceLT, Int.reduceLE, Int.reduceAdd, Int.reduceMul, Int.reduceSub, Int.reduceNeg, Int.reduceToNat, Int.reducePow, Int.reduceMod, Int.reduceDiv, Int.reduceEq, Nat.reducePow, Nat.reduceMul, Nat.reduceLT, Nat.reduceLeDiff, Int.ofNat_zero, Int.natCast_zero, Int.natCast_one, Int.ofNat_eq_natCast, Int.natCast_nonneg, beq_self_eq_true, Option.isNone_none, Option.isNone_some, Bool.not_eq_true, List.append_nil, Option.bind_some, List.lookup_cons, List.contains_nil, List.contains_cons] <;> exact rfl) rfl
end My
end
section
namespace My
open PySem PySem.Spec PyProof.Rows L2 DL
def topS (i : Nat) : Stmt := PySem.Challenge.pw_standstill_k04_a_part_lost.main.body.getD i (.Pass ⟨0, 0, 0, 0⟩)
/-! ### _law_mixed -/
abbrev s_l_mixed : Stmt := topS 11
abbrev N_l_mixed : List Str := ["_law_cell", "_law_k", "_law_factor", "_law_prime"]
abbrev P_l_mixed : List Str := ["_law_cell", "_law_k"]
theorem sc_l_mixed : FnScope N_l_mixed P_l_mixed (defScope s_l_mixed) := ⟨rfl, rfl, rfl, by decide +kernel, rfl, by decide +kernel, by decide +kernel⟩
noncomputable def T_l_mixed : CT := mkT N_l_mixed [] [] [] [] [] []
theorem c_l_mixed : cB T_l_mixed 60 (defScope s_l_mixed) (defBody s_l_mixed) = some b_l_mixed := by kernel_rfl
theorem ok_l_mixed {P : Program} {w : World} {K : PySem.W.Frag} {mg : Str → Option Value} {base : Heap} {k : Nat} {f : Addr} {fd : FuncData} (M : Mods P w K mg base k T_l_mixed) (F : Fun K "_law_mixed" "_law_mixed" s_l_mixed f fd) :
    FnOk P w K mg base CX0 (k + 1) f fd P_l_mixed (spD K f_l_mixed) := fn_ok M F sc_l_mixed c_l_mixed
/-! ### _law_cell_at -/
abbrev s_l_cell_at : Stmt := topS 10
abbrev N_l_cell_at : List Str := ["_law_script", "_law_k"]
abbrev P_l_cell_at : List Str := ["_law_script", "_law_k"]
theorem sc_l_cell_at : FnScope N_l_cell_at P_l_cell_at (defScope s_l_cell_at) := ⟨rfl, rfl, rfl, by decide +kernel, rfl, by decide +kernel, by decide +kernel⟩
noncomputable def T_l_cell_at : CT := mkT N_l_cell_at [] [] ["len"] [] [] []
theorem c_l_cell_at : cB T_l_cell_at 60 (defScope s_l_cell_at) (defBody s_l_cell_at) = some b_l_cell_at := by kernel_rfl
theorem ok_l_cell_at {P : Program} {w : World} {K : PySem.W.Frag} {mg : Str → Option Value} {base : Heap} {k : Nat} {f : Addr} {fd : FuncData} (M : Mods P w K mg base k T_l_cell_at) (F : Fun K "_law_cell_at" "_law_cell_at" s_l_cell_at f fd) :
    FnOk P w K mg base CX0 (k + 1) f fd P_l_cell_at (spD K f_l_cell_at) := fn_ok M F sc_l_cell_at c_l_cell_at
/-! ### _law_truths -/
abbrev s_l_truths : Stmt := topS 12
abbrev N_l_truths : List Str := ["_law_cell", "_law_many", "_law_k", "_law_factor", "_law_bits", "_law_place"]
abbrev P_l_truths : List Str := ["_law_cell", "_law_many", "_law_k"]
theorem sc_l_truths : FnScope N_l_truths P_l_truths (defScope s_l_truths) := ⟨rfl, rfl, rfl, by decide +kernel, rfl, by decide +kernel, by decide +kernel⟩
noncomputable def T_l_truths : CT := mkT N_l_truths [] [] ["range"] [] [] []
theorem c_l_truths : cB T_l_truths 60 (defScope s_l_truths) (defBody s_l_truths) = some b_l_truths := by kernel_rfl
theorem ok_l_truths {P : Program} {w : World} {K : PySem.W.Frag} {mg : Str → Option Value} {base : Heap} {k : Nat} {f : Addr} {fd : FuncData} (M : Mods P w K mg base k T_l_truths) (F : Fun K "_law_truths" "_law_truths" s_l_truths f fd) :
    FnOk P w K mg base CX0 (k + 1) f fd P_l_truths (spD K f_l_truths) := fn_ok M F sc_l_truths c_l_truths
/-! ### _law_sheet -/
abbrev s_l_sheet : Stmt := topS 15
abbrev N_l_sheet : List Str := ["_law_cell", "_law_other", "_law_many", "_law_sheet_here", "_law_truth", "_law_free_here"]
abbrev P_l_sheet : List Str := ["_law_cell", "_law_other", "_law_many"]
theorem sc_l_sheet : FnScope N_l_sheet P_l_sheet (defScope s_l_sheet) := ⟨rfl, rfl, rfl, by decide +kernel, rfl, by decide +kernel, by decide +kernel⟩
noncomputable def T_l_sheet : CT := mkT N_l_sheet [("_law_truths", f_l_truths, [false, false, false])] [] ["zip"] [] [] []
theorem c_l_sheet : cB T_l_sheet 60 (defScope s_l_sheet) (defBody s_l_sheet) = some b_l_sheet := by kernel_rfl
theorem ok_l_sheet {P : Program} {w : World} {K : PySem.W.Frag} {mg : Str → Option Value} {base : Heap} {k : Nat} {f : Addr} {fd : FuncData} (M : Mods P w K mg base k T_l_sheet) (F : Fun K "_law_sheet" "_law_sheet" s_l_sheet f fd) :
    FnOk P w K mg base CX0 (k + 1) f fd P_l_sheet (spD K f_l_sheet) := fn_ok M F sc_l_sheet c_l_sheet
/-! ### _law_items -/
abbrev s_l_items : Stmt := topS 14
abbrev N_l_items : List Str := ["_law_cells", "_law_many", "_law_items_here", "_law_cell", "_law_mixed_here", "_law_worth"]
abbrev P_l_items : List Str := ["_law_cells", "_law_many"]
theorem sc_l_items : FnScope N_l_items P_l_items (defScope s_l_items) := ⟨rfl, rfl, rfl, by decide +kernel, rfl, by decide +kernel, by decide +kernel⟩
noncomputable def T_l_items : CT := mkT N_l_items [("_law_mixed", f_l_mixed, [false, false])] [] [] [] [] []
theorem c_l_items : cB T_l_items 60 (defScope s_l_items) (defBody s_l_items) = some b_l_items := by kernel_rfl
theorem ok_l_items {P : Program} {w : World} {K : PySem.W.Frag} {mg : Str → Option Value} {base : Heap} {k : Nat} {f : Addr} {fd : FuncData} (M : Mods P w K mg base k T_l_items) (F : Fun K "_law_items" "_law_items" s_l_items f fd) :
    FnOk P w K mg base CX0 (k + 1) f fd P_l_items (spD K f_l_items) := fn_ok M F sc_l_items c_l_items
/-! ### _law_free -/
abbrev s_l_free : Stmt := topS 16
abbrev N_l_free : List Str := ["_law_sheet_here", "_law_without", "_law_thing"]
abbrev P_l_free : List Str := ["_law_sheet_here", "_law_without", "_law_thing"]
theorem sc_l_free : FnScope N_l_free P_l_free (defScope s_l_free) := ⟨rfl, rfl, rfl, by decide +kernel, rfl, by decide +kernel, by decide +kernel⟩
noncomputable def T_l_free : CT := mkT N_l_free [] [] [] [] [] []
noncomputable def b_l_free : MS :=
  (sRet (mAnd (mBin dIsNot (mIx (mVar 0) (mVar 2)) (mC (.bool false))) (mNot (mIx (mVar 1) (mVar 2)))))
noncomputable def f_l_free : FD := fnSem 3 3 b_l_free
theorem c_l_free : cB T_l_free 60 (defScope s_l_free) (defBody s_l_free) = some b_l_free := by kernel_rfl
theorem ok_l_free {P : Program} {w : World} {K : PySem.W.Frag} {mg : Str → Option Value} {base : Heap} {k : Nat} {f : Addr} {fd : FuncData} (M : Mods P w K mg base k T_l_free) (F : Fun K "_law_free" "_law_free" s_l_free f fd) :
    FnOk P w K mg base CX0 (k + 1) f fd P_l_free (spD K f_l_free) := fn_ok M F sc_l_free c_l_free
/-! ### In___init__ -/
abbrev s_In___init__ : Stmt := inClass (topS 4) 0
abbrev N_In___init__ : List Str := ["self", "thing"]
abbrev P_In___init__ : List Str := ["self", "thing"]
theorem sc_In___init__ : FnScope N_In___init__ P_In___init__ (defScope s_In___init__) := ⟨rfl, rfl, rfl, by decide +kernel, rfl, by decide +kernel, by decide +kernel⟩
noncomputable def T_In___init__ : CT := mkT N_In___init__ [] [] [] [] [] fl_In
theorem c_In___init__ : cInit T_In___init__ 60 (defScope s_In___init__) (defBody s_In___init__) = some i_In := by kernel_rfl
theorem ok_In___init__ {P : Program} {w : World} {K : PySem.W.Frag} {mg : Str → Option Value} {base : Heap} {k : Nat} {f : Addr} {fd : FuncData} (M : Mods P w K mg base k T_In___init__) (L : FlAll K fl_In) (F : Fun K "__init__" "In.__init__" s_In___init__ f fd) :
    FnOk P w K mg base CX0 (k + 1) f fd P_In___init__ (spI K "In" f_In) := init_ok M F sc_In___init__ c_In___init__ (hcl_of L (by decide +kernel) (by unfold i_In; simp)) (by unfold i_In; simp)
/-! ### Out___init__ -/
abbrev s_Out___init__ : Stmt := inClass (topS 5) 0
abbrev N_Out___init__ : List Str := ["self", "thing"]
abbrev P_Out___init__ : List Str := ["self", "thing"]
theorem sc_Out___init__ : FnScope N_Out___init__ P_Out___init__ (defScope s_Out___init__) := ⟨rfl, rfl, rfl, by decide +kernel, rfl, by decide +kernel, by decide +kernel⟩
noncomputable def T_Out___init__ : CT := mkT N_Out___init__ [] [] [] [] [] fl_Out
theorem c_Out___init__ : cInit T_Out___init__ 60 (defScope s_Out___init__) (defBody s_Out___init__) = some i_Out := by kernel_rfl
theorem ok_Out___init__ {P : Program} {w : World} {K : PySem.W.Frag} {mg : Str → Option Value} {base : Heap} {k : Nat} {f : Addr} {fd : FuncData} (M : Mods P w K mg base k T_Out___init__) (L : FlAll K fl_Out) (F : Fun K "__init__" "Out.__init__" s_Out___init__ f fd) :
    FnOk P w K mg base CX0 (k + 1) f fd P_Out___init__ (spI K "Out" f_Out) := init_ok M F sc_Out___init__ c_Out___init__ (hcl_of L (by decide +kernel) (by unfold i_Out; simp)) (by unfold i_Out; simp)
/-! ### Least___init__ -/
abbrev s_Least___init__ : Stmt := inClass (topS 6) 0
abbrev N_Least___init__ : List Str := ["self", "bound", "items"]
abbrev P_Least___init__ : List Str := ["self", "bound", "items"]
theorem sc_Least___init__ : FnScope N_Least___init__ P_Least___init__ (defScope s_Least___init__) := ⟨rfl, rfl, rfl, by decide +kernel, rfl, by decide +kernel, by decide +kernel⟩
noncomputable def T_Least___init__ : CT := mkT N_Least___init__ [] [] ["list"] [] [] fl_Least
theorem c_Least___init__ : cInit T_Least___init__ 60 (defScope s_Least___init__) (defBody s_Least___init__) = some i_Least := by kernel_rfl
theorem ok_Least___init__ {P : Program} {w : World} {K : PySem.W.Frag} {mg : Str → Option Value} {base : Heap} {k : Nat} {f : Addr} {fd : FuncData} (M : Mods P w K mg base k T_Least___init__) (L : FlAll K fl_Least) (F : Fun K "__init__" "Least.__init__" s_Least___init__ f fd) :
    FnOk P w K mg base CX0 (k + 1) f fd P_Least___init__ (spI K "Least" f_Least) := init_ok M F sc_Least___init__ c_Least___init__ (hcl_of L (by decide +kernel) (by unfold i_Least; simp)) (by unfold i_Least; simp)
/-! ### Most___init__ -/
abbrev s_Most___init__ : Stmt := inClass (topS 7) 0
abbrev N_Most___init__ : List Str := ["self", "bound", "items"]
abbrev P_Most___init__ : List Str := ["self", "bound", "items"]
theorem sc_Most___init__ : FnScope N_Most___init__ P_Most___init__ (defScope s_Most___init__) := ⟨rfl, rfl, rfl, by decide +kernel, rfl, by decide +kernel, by decide +kernel⟩
noncomputable def T_Most___init__ : CT := mkT N_Most___init__ [] [] ["list"] [] [] fl_Most
theorem c_Most___init__ : cInit T_Most___init__ 60 (defScope s_Most___init__) (defBody s_Most___init__) = some i_Most := by kernel_rfl
theorem ok_Most___init__ {P : Program} {w : World} {K : PySem.W.Frag} {mg : Str → Option Value} {base : Heap} {k : Nat} {f : Addr} {fd : FuncData} (M : Mods P w K mg base k T_Most___init__) (L : FlAll K fl_Most) (F : Fun K "__init__" "Most.__init__" s_Most___init__ f fd) :
    FnOk P w K mg base CX0 (k + 1) f fd P_Most___init__ (spI K "Most" f_Most) := init_ok M F sc_Most___init__ c_Most___init__ (hcl_of L (by decide +kernel) (by unfold i_Most; simp)) (by unfold i_Most; simp)
/-! ### part_of -/
abbrev s_part_of : Stmt := topS 8
abbrev N_part_of : List Str := ["told"]
abbrev P_part_of : List Str := ["told"]
theorem sc_part_of : FnScope N_part_of P_part_of (defScope s_part_of) := ⟨rfl, rfl, rfl, by decide +kernel, rfl, by decide +kernel, by decide +kernel⟩
noncomputable def T_part_of : CT := mkT N_part_of [] [("In", f_In, [false]), ("Out", f_Out, [false]), ("Least", f_Least, [false, false]), ("Most", f_Most, [false, false])] [] [] [] []
theorem c_part_of : cB T_part_of 60 (defScope s_part_of) (defBody s_part_of) = some b_part_of := by kernel_rfl
theorem ok_part_of {P : Program} {w : World} {K : PySem.W.Frag} {mg : Str → Option Value} {base : Heap} {k : Nat} {f : Addr} {fd : FuncData} (M : Mods P w K mg base k T_part_of) (F : Fun K "part_of" "part_of" s_part_of f fd) :
    FnOk P w K mg base CX0 (k + 1) f fd P_part_of (spD K f_part_of) := fn_ok M F sc_part_of c_part_of
/-! ### _law_right -/
abbrev s_l_right : Stmt := topS 13
abbrev N_l_right : List Str := ["_law_found", "_law_due"]
abbrev P_l_right : List Str := ["_law_found", "_law_due"]
theorem sc_l_right : FnScope N_l_right P_l_right (defScope s_l_right) := ⟨rfl, rfl, rfl, by decide +kernel, rfl, by decide +kernel, by decide +kernel⟩
noncomputable def T_l_right : CT := mkT N_l_right [] [] ["isinstance", "bool"] [] [] []
theorem c_l_right : cB T_l_right 60 (defScope s_l_right) (defBody s_l_right) = some b_l_right := by kernel_rfl
theorem ok_l_right {P : Program} {w : World} {K : PySem.W.Frag} {mg : Str → Option Value} {base : Heap} {k : Nat} {f : Addr} {fd : FuncData} (M : Mods P w K mg base k T_l_right) (F : Fun K "_law_right" "_law_right" s_l_right f fd) :
    FnOk P w K mg base CX0 (k + 1) f fd P_l_right (spD K f_l_right) := fn_ok M F sc_l_right c_l_right
/-! ### _law_lost -/
abbrev s_l_lost : Stmt := topS 17
abbrev N_l_lost : List Str := ["_law_row", "_law_sheet_here", "_law_without", "_law_thing", "_law_worth"]
abbrev P_l_lost : List Str := ["_law_row", "_law_sheet_here", "_law_without"]
theorem sc_l_lost : FnScope N_l_lost P_l_lost (defScope s_l_lost) := ⟨rfl, rfl, rfl, by decide +kernel, rfl, by decide +kernel, by decide +kernel⟩
noncomputable def T_l_lost : CT := mkT N_l_lost [("_law_free", f_l_free, [false, false, false])] [] ["sum"] [] [] []
noncomputable def if_l_lost_1 : MS :=
  (sIf (tst (mBin dEq (mIx (mVar 0) (mC (.int 0))) (mC (.str "in"))))
    (sRet (mNot (mCall f_l_free [false, false, false] (rCons (mVar 1) (rCons (mVar 2) (rCons (mIx (mVar 0) (mC (.int 1))) rNil))))))
    sNil)
noncomputable def if_l_lost_2 : MS :=
  (sIf (tst (mBin dEq (mIx (mVar 0) (mC (.int 0))) (mC (.str "out"))))
    (sRet (mBin dIs (mIx (mVar 1) (mIx (mVar 0) (mC (.int 1)))) (mC (.bool true))))
    sNil)
noncomputable def if_l_lost_3 : MS :=
  (sIf (tst (mBin dEq (mIx (mVar 0) (mC (.int 0))) (mC (.str "least"))))
    (sRet (mBin dLt (mUn dSum (mLc (iSeq (mIx (mVar 0) (mC (.int 2)))) (.tup [(.nm 3), (.nm 4)]) (tst (mCall f_l_free [false, false, false] (rCons (mVar 1) (rCons (mVar 2) (rCons (mVar 3) rNil))))) (mVar 4) [3, 4])) (mIx (mVar 0) (mC (.int 1)))))
    sNil)
noncomputable def b_l_lost : MS :=
  (sSeq if_l_lost_1
  (sSeq if_l_lost_2
  (sSeq if_l_lost_3
  (sRet (mBin dGt (mUn dSum (mLc (iSeq (mIx (mVar 0) (mC (.int 2)))) (.tup [(.nm 3), (.nm 4)]) (tst (mBin dIs (mIx (mVar 1) (mVar 3)) (mC (.bool true)))) (mVar 4) [3, 4])) (mIx (mVar 0) (mC (.int 1))))))))
noncomputable def f_l_lost : FD := fnSem 3 5 b_l_lost
theorem c_l_lost : cB T_l_lost 60 (defScope s_l_lost) (defBody s_l_lost) = some b_l_lost := by kernel_rfl
theorem ok_l_lost {P : Program} {w : World} {K : PySem.W.Frag} {mg : Str → Option Value} {base : Heap} {k : Nat} {f : Addr} {fd : FuncData} (M : Mods P w K mg base k T_l_lost) (F : Fun K "_law_lost" "_law_lost" s_l_lost f fd) :
    FnOk P w K mg base CX0 (k + 1) f fd P_l_lost (spD K f_l_lost) := fn_ok M F sc_l_lost c_l_lost
/-! ### In_lost -/
abbrev s_In_lost : Stmt := inClass (topS 4) 5
abbrev N_In_lost : List Str := ["self", "sheet", "without"]
abbrev P_In_lost : List Str := ["self", "sheet", "without"]
theorem sc_In_lost : FnScope N_In_lost P_In_lost (defScope s_In_lost) := ⟨rfl, rfl, rfl, by decide +kernel, rfl, by decide +kernel, by decide +kernel⟩
noncomputable def T_In_lost : CT := mkT N_In_lost [] [] [] [] [] fl_In
theorem c_In_lost : cB T_In_lost 60 (defScope s_In_lost) (defBody s_In_lost) = some b_In_lost := by kernel_rfl
theorem ok_In_lost {P : Program} {w : World} {K : PySem.W.Frag} {mg : Str → Option Value} {base : Heap} {k : Nat} {f : Addr} {fd : FuncData} (M : Mods P w K mg base k T_In_lost) (F : Fun K "lost" "In.lost" s_In_lost f fd) :
    FnOk P w K mg base CX0 (k + 1) f fd P_In_lost (spD K f_In_lost) := fn_ok M F sc_In_lost c_In_lost
/-! ### Out_lost -/
abbrev s_Out_lost : Stmt := inClass (topS 5) 5
abbrev N_Out_lost : List Str := ["self", "sheet", "without"]
abbrev P_Out_lost : List Str := ["self", "sheet", "without"]
theorem sc_Out_lost : FnScope N_Out_lost P_Out_lost (defScope s_Out_lost) := ⟨rfl, rfl, rfl, by decide +kernel, rfl, by decide +kernel, by decide +kernel⟩
noncomputable def T_Out_lost : CT := mkT N_Out_lost [] [] [] [] [] fl_Out
theorem c_Out_lost : cB T_Out_lost 60 (defScope s_Out_lost) (defBody s_Out_lost) = some b_Out_lost := by kernel_rfl
theorem ok_Out_lost {P : Program} {w : World} {K : PySem.W.Frag} {mg : Str → Option Value} {base : Heap} {k : Nat} {f : Addr} {fd : FuncData} (M : Mods P w K mg base k T_Out_lost) (F : Fun K "lost" "Out.lost" s_Out_lost f fd) :
    FnOk P w K mg base CX0 (k + 1) f fd P_Out_lost (spD K f_Out_lost) := fn_ok M F sc_Out_lost c_Out_lost
/-! ### worth_of -/
abbrev s_worth_of : Stmt := topS 2
abbrev N_worth_of : List Str := ["items", "told", "thing", "worth"]
abbrev P_worth_of : List Str := ["items", "told"]
theorem sc_worth_of : FnScope N_worth_of P_worth_of (defScope s_worth_of) := ⟨rfl, rfl, rfl, by decide +kernel, rfl, by decide +kernel, by decide +kernel⟩
noncomputable def T_worth_of : CT := mkT N_worth_of [] [] ["sum"] [] [] []
theorem c_worth_of : cB T_worth_of 60 (defScope s_worth_of) (defBody s_worth_of) = some b_worth_of := by kernel_rfl
theorem ok_worth_of {P : Program} {w : World} {K : PySem.W.Frag} {mg : Str → Option Value} {base : Heap} {k : Nat} {f : Addr} {fd : FuncData} (M : Mods P w K mg base k T_worth_of) (F : Fun K "worth_of" "worth_of" s_worth_of f fd) :
    FnOk P w K mg base CX0 (k + 1) f fd P_worth_of (spD K f_worth_of) := fn_ok M F sc_worth_of c_worth_of
/-! ### Least_lost -/
abbrev s_Least_lost : Stmt := inClass (topS 6) 5
abbrev N_Least_lost : List Str := ["self", "sheet", "without", "left", "entry", "gone"]
abbrev P_Least_lost : List Str := ["self", "sheet", "without"]
theorem sc_Least_lost : FnScope N_Least_lost P_Least_lost (defScope s_Least_lost) := ⟨rfl, rfl, rfl, by decide +kernel, rfl, by decide +kernel, by decide +kernel⟩
noncomputable def T_Least_lost : CT := mkT N_Least_lost [("worth_of", f_worth_of, [false, false])] [] ["zip"] [] [] fl_Least
theorem c_Least_lost : cB T_Least_lost 60 (defScope s_Least_lost) (defBody s_Least_lost) = some b_Least_lost := by kernel_rfl
theorem ok_Least_lost {P : Program} {w : World} {K : PySem.W.Frag} {mg : Str → Option Value} {base : Heap} {k : Nat} {f : Addr} {fd : FuncData} (M : Mods P w K mg base k T_Least_lost) (F : Fun K "lost" "Least.lost" s_Least_lost f fd) :
    FnOk P w K mg base CX0 (k + 1) f fd P_Least_lost (spD K f_Least_lost) := fn_ok M F sc_Least_lost c_Least_lost
/-! ### Most_lost -/
abbrev s_Most_lost : Stmt := inClass (topS 7) 5
abbrev N_Most_lost : List Str := ["self", "sheet", "without", "entry"]
abbrev P_Most_lost : List Str := ["self", "sheet", "without"]
theorem sc_Most_lost : FnScope N_Most_lost P_Most_lost (defScope s_Most_lost) := ⟨rfl, rfl, rfl, by decide +kernel, rfl, by decide +kernel, by decide +kernel⟩
noncomputable def T_Most_lost : CT := mkT N_Most_lost [("worth_of", f_worth_of, [false, false])] [] [] [] [] fl_Most
theorem c_Most_lost : cB T_Most_lost 60 (defScope s_Most_lost) (defBody s_Most_lost) = some b_Most_lost := by kernel_rfl
theorem ok_Most_lost {P : Program} {w : World} {K : PySem.W.Frag} {mg : Str → Option Value} {base : Heap} {k : Nat} {f : Addr} {fd : FuncData} (M : Mods P w K mg base k T_Most_lost) (F : Fun K "lost" "Most.lost" s_Most_lost f fd) :
    FnOk P w K mg base CX0 (k + 1) f fd P_Most_lost (spD K f_Most_lost) := fn_ok M F sc_Most_lost c_Most_lost
/-! ### law -/
abbrev s_law : Stmt := topS 18
abbrev N_law : List Str := ["_law_script", "_law_mixed_here", "_law_many", "_law_sheet_here", "_law_without", "_law_items_here", "_law_low", "_law_high", "_law_bound", "_law_rows", "_law_thing", "_law_kept", "_law_handed", "_law_row", "_law_found", "_law_item", "_law_worth"]
abbrev P_law : List Str := ["_law_script"]
theorem sc_law : FnScope N_law P_law (defScope s_law) := ⟨rfl, rfl, rfl, by decide +kernel, rfl, by decide +kernel, by decide +kernel⟩
noncomputable def T_law : CT := mkT N_law [("_law_mixed", f_l_mixed, [false, false]), ("_law_cell_at", f_l_cell_at, [false, false]), ("_law_sheet", f_l_sheet, [false, false, false]), ("_law_truths", f_l_truths, [false, false, false]), ("_law_items", f_l_items, [false, false]), ("_law_free", f_l_free, [false, false, false]), ("part_of", f_part_of, [false]), ("_law_right", f_l_right, [false, false]), ("_law_lost", f_l_lost, [false, false, false])] [] ["sum", "list"] [] [("lost", tab_lost, [false, false])] []
noncomputable def if_law_1 : MS :=
  (sIf (tst (mBin dEq (mBin dMod (mBin dFdiv (mVar 1) (mC (.int 480))) (mC (.int 8))) (mC (.int 3))))
    (sAsg 8 (mBin dSub (mC (.int 0)) (mBin dMod (mCall f_l_cell_at [false, false] (rCons (mVar 0) (rCons (mC (.int 3)) rNil))) (mBin dPow (mC (.int 10)) (mC (.int 60))))))
    sNil)
noncomputable def lp_law_1 : MS :=
  (sSeq (sApp 9 (mTup (eCons (mC (.str "in")) (eCons (mVar 10) eNil))))
  (sApp 9 (mTup (eCons (mC (.str "out")) (eCons (mVar 10) eNil)))))
noncomputable def if_law_2 : MS :=
  (sIf (mtNot (tst (mCall f_l_right [false, false] (rCons (mVar 14) (rCons (mCall f_l_lost [false, false, false] (rCons (mVar 13) (rCons (mVar 3) (rCons (mVar 4) rNil)))) rNil)))))
    (sRet (mC (.bool false)))
    sNil)
noncomputable def lp_law_2 : MS :=
  (sSeq (sAsg 14 (mMeth tab_lost "lost" [false, false] (mCall f_part_of [false] (rCons (mVar 13) rNil)) (rCons (mIx (mVar 12) (mC (.int 0))) (rCons (mIx (mVar 12) (mC (.int 1))) rNil))))
  if_law_2)
noncomputable def b_law : MS :=
  (sSeq (sAsg 1 (mCall f_l_mixed [false, false] (rCons (mCall f_l_cell_at [false, false] (rCons (mVar 0) (rCons (mC (.int 0)) rNil))) (rCons (mC (.int 1)) rNil))))
  (sSeq (sAsg 2 (mAdd (mC (.int 1)) (mBin dMod (mVar 1) (mC (.int 60)))))
  (sSeq (sAsg 3 (mCall f_l_sheet [false, false, false] (rCons (mCall f_l_cell_at [false, false] (rCons (mVar 0) (rCons (mC (.int 1)) rNil))) (rCons (mCall f_l_cell_at [false, false] (rCons (mVar 0) (rCons (mC (.int 2)) rNil))) (rCons (mVar 2) rNil)))))
  (sSeq (sAsg 4 (mCall f_l_truths [false, false, false] (rCons (mCall f_l_cell_at [false, false] (rCons (mVar 0) (rCons (mC (.int 2)) rNil))) (rCons (mVar 2) (rCons (mC (.int 2)) rNil)))))
  (sSeq (sAsg 5 (mCall f_l_items [false, false] (rCons (mSl (mVar 0) (oSome (mC (.int 4))) (oSome (mC (.int 64)))) (rCons (mVar 2) rNil))))
  (sSeq (sAsg 6 (mUn dSum (mLc (iSeq (mVar 5)) (.tup [(.nm 10), (.nm 16)]) (tst (mCall f_l_free [false, false, false] (rCons (mVar 3) (rCons (mVar 4) (rCons (mVar 10) rNil))))) (mVar 16) [10, 16])))
  (sSeq (sAsg 7 (mUn dSum (mLc (iSeq (mVar 5)) (.tup [(.nm 10), (.nm 16)]) (tst (mBin dIs (mIx (mVar 3) (mVar 10)) (mC (.bool true)))) (mVar 16) [10, 16])))
  (sSeq (sAsg 8 (mAdd (mIx (mLst (eCons (mVar 6) (eCons (mVar 7) eNil))) (mBin dMod (mBin dFdiv (mVar 1) (mC (.int 60))) (mC (.int 2)))) (mIx (mLst (eCons (mC (.int 0)) (eCons (mC (.int 1)) (eCons (mUn dNeg (mC (.int 1))) (eCons (mC (.int 0)) eNil))))) (mBin dMod (mBin dFdiv (mVar 1) (mC (.int 120))) (mC (.int 4))))))
  (sSeq if_law_1
  (sSeq (sAsg 9 (mLst (eCons (mTup (eCons (mC (.str "least")) (eCons (mVar 8) (eCons (mVar 5) eNil)))) (eCons (mTup (eCons (mC (.str "most")) (eCons (mVar 8) (eCons (mVar 5) eNil)))) eNil))))
  (sSeq (sFor (iSeq (mAdd (mLst (eCons (mBin dMod (mBin dFdiv (mVar 1) (mC (.int 3840))) (mVar 2)) eNil)) (mLc (iSeq (mVar 5)) (.nm 15) mtYes (mIx (mVar 15) (mC (.int 0))) [15]))) (.nm 10) lp_law_1)
  (sSeq (sAsg 11 (mList (mVar 5)))
  (sSeq (sAsg 12 (mLst (eCons (mList (mVar 3)) (eCons (mList (mVar 4)) eNil))))
  (sSeq (sFor (iSeq (mVar 9)) (.nm 13) lp_law_2)
  (sRet (mAnd (mBin dEq (mVar 5) (mVar 11)) (mBin dEq (mVar 12) (mLst (eCons (mVar 3) (eCons (mVar 4) eNil))))))))))))))))))))
noncomputable def f_law : FD := fnSem 1 17 b_law
theorem c_law : cB T_law 60 (defScope s_law) (defBody s_law) = some b_law := by kernel_rfl
theorem ok_law {P : Program} {w : World} {K : PySem.W.Frag} {mg : Str → Option Value} {base : Heap} {k : Nat} {f : Addr} {fd : FuncData} (M : Mods P w K mg base k T_law) (F : Fun K "law" "law" s_law f fd) :
    FnOk P w K mg base CX0 (k + 1) f fd P_law (spD K f_law) := fn_ok M F sc_law c_law
end My
namespace My
open PySem PySem.Spec PyProof.Rows L2 DL
set_option maxHeartbeats 4000000
theorem leftOf_get (s : Sheet) (w : List Bool) (t : Nat) (h : t < s.length) (h2 : t < w.length) : (leftOf s w).getD t false = (decide (s[t] ≠ some false) && !w[t]) := by
  unfold leftOf
  rw [List.getD_eq_getElem?_getD, List.getElem?_zipWith, List.getElem?_eq_getElem h, List.getElem?_eq_getElem h2]; rfl
theorem r_free (s : Sheet) (w : List Bool) (t : Nat) (h : t < s.length) (h2 : t < w.length) : f_l_free [.v false (dS s), .v false (dB w), .v false (.int t)] = some (.v true (.bool (decide (s[t] ≠ some false) && !w[t])), [.v false (dS s), .v false (dB w), .v false (.int t)]) := by
  unfold f_l_free b_l_free
  simp only [x02, x9h, xa1, xa0, x9y, x9z, x9x, x33, x30, x2y, x2z, x32, x31, x52, x50, x4z, x51, x4y, x4w, x4x, xbh, xbm, xbi, xbf, xbg, xbe, xbj, xbl, xbk, xba, xbd, xbb, xbc, x7b, x7c, x7a, x7e, x7d, x78, x79, xb5, xb9, xb6, xb8, xb7, x00, x01, x8j, x8c, x18, x19, x1a, xb3, xb4, x0j, x0g, x0i, x0h, x8d, x8e, x8g, x8f, x82, x83, x84, xat, xar, xas, xal, xak, xap, xao, xan, xam, xeh, x07, x03, x04, x05, x06, x08, x09, x6j, x6c, x6d, x6e, x6f, x6g, x6h, x6i, x2q, x2p, x2r, x2s, xav, xaq, x77, x76, x3m, x3l, xa3, xa4, xab, xac, xad, xae, xaf, xag, xah, xai, xa5, xa6, xa7, xa8, xa9, xaa, xaj, x89, x8a, x8h, x8i, x9m, x9n, x9o, x9p, x9q, x9r, x9s, x6x, x6v, x6w, x20, x1v, x1w, x1y, x1x, x1z, x4v, x4t, x4u, x4q, x4r, x4s, x5b, x1b, x1i, x1h, x1g, x1d, x74, x75, x73, x6z, x6y, x72, x70, x71, x9e, x5k, x5l, x5m, x5n, x8x, x8y, x8z, x90, x91, x92, x93, x2v, x2t, x2u, xei, xej, xek, xel, x8w, x98, x99, xb1, xb2, xb0, xaz, x81, x80, x87, x88, x85, x86, xd1, xd0, x8t, x8s, x6r, x6n, x6p, x6o, x8b, x6k, x6l, x6m, x7z, x1c, x2b, x8v, x9f, x9v, x9w, x9u, x9t, x59, x5a, x8u, x97, x35, x34, x0o, x0a, x0b, x0d, x0c, x0e, x0p, x0q, x0r, x12, x0z, x10, x11, x5o, x5g, x9g, x9a, x9b, x9c, x9d, x0n, x0l, x0m, x36, xef, xeg, x4p, x4o, xax, xay, x53, x55, x54, xaw, xau, x3f, x3e, x3d, x3g, x8p, x8o, x8q, x8r, x7r, x7p, x7q, x7o, x7m, x7k, x7l, x7n, x7i, x7h, x7f, x7g, x14, x16, x17, x15, x13, x1f, x1e, x5j, x5h, x5i, x57, x58, x56, x27, x2a, x29, x28, x9k, x9j, x9l, x9i, x1j, x21, x22, x23, x26, x25, x24, x7v, x7w, x3n, x3h, x3i, x7j, x7s, x7t, x7u, x96, x95, x94, x5e, x5f, x5c, x3p, x3q, x3r, x3s, x3t, x3u, x3v, x3w, x3x, x4a, x4l, x49, x4b, x4c, x3j, x2o, x2j, x2d, x2i, x2m, x2n, x2c, x2h, x2g, x2f, x2e, x2k, x6s, x6u, x6t, x2x, x7y, x2w, x7x, x5u, x5r, x5q, x5v, x5s, x5p, x5t, x6a, x67, x66, x6b, x68, x65, x69, x5z, x5x, x5y, x5w, x60, x64, x63, x61, x62, xbn, xd2, xbt, xd8, xbo, xd3, xbr, xd6, xbp, xd4, xbq, xd5, xbs, xd7, xct, xe8, xcz, xee, xcu, xe9, xcx, xec, xcv, xea, xcw, xeb, xcy, xed, xbu, xd9, xc0, xdf, xbv, xda, xby, xdd, xbw, xdb, xbx, xdc, xbz, xde, xcf, xdu, xcl, xe0, xcg, xdv, xcj, xdy, xch, xdw, xci, xdx, xck, xdz, xc1, xdg, xc7, xdm, xc2, xdh, xc5, xdk, xc3, xdi, xc4, xdj, xc6, xdl, xc8, xdn, xce, xdt, xc9, xdo, xcc, xdr, xca, xdp, xcb, xdq, xcd, xds, xcm, xe1, xcs, xe7, xcn, xe2, xcq, xe5, xco, xe3, xcp, xe4, xcr, xe6, x8k, x8l, x8m, x8n, x0s, x0t, x0u, x0v, x0w, x0x, x0y, x3y, x4n, x41, x4e, x44, x4j, x47, x4g, x4m, x40, x4d, x43, x4i, x46, x4h, x3z, x42, x4f, x45, x4k, x48, x37, x3c, x38, x39, x3a, x3b, x1n, x1o, x1p, x1q, x1r, x1s, x1t, x1u, x1k, x1l, x1m, List.getElem?_cons_zero, List.getElem?_cons_succ, List.set_cons_zero, List.set_cons_succ, List.replicate, List.cons_append, List.nil_append, List.take_succ_cons, List.take_zero, List.getD_cons_zero, List.getD_cons_succ, List.map_cons, List.map_nil, if_true, if_false, Bool.true_and, Bool.and_true, Bool.false_and, Bool.and_false, Bool.true_or, Bool.or_true, Bool.false_or, Bool.or_false, Bool.not_true, Bool.not_false, reduceIte, Bool.false_eq_true, eq_self, Nat.sub_self, sc, noL, noLAll, Option.map_some, Int.toNat_natCast, Nat.reduceSub, Nat.reduceAdd, decide_true, decide_false, List.length_cons, List.length_nil, Int.reduceLT, Int.reduceLE, Int.reduceAdd, Int.reduceMul, Int.reduceSub, Int.reduceNeg, Int.reduceToNat, Int.reducePow, Int.reduceMod, Int.reduceDiv, Int.reduceEq, Nat.reducePow, Nat.reduceMul, Nat.reduceLT, Nat.reduceLeDiff, Int.ofNat_zero, Int.natCast_zero, Int.natCast_one, Int.ofNat_eq_natCast, Int.natCast_nonneg, beq_self_eq_true, Option.isNone_none, Option.isNone_some, Bool.not_eq_true, List.append_nil, Option.bind_some, List.lookup_cons, List.contains_nil, List.contains_cons, atI_map _ _ _ h, atI_map _ _ _ h2, isn_ob]
  by_cases c : s[t] = some false
  · simp only [x02, x9h, xa1, xa0, x9y, x9z, x9x, x33, x30, x2y, x2z, x32, x31, x52, x50, x4z, x51, x4y, x4w, x4x, xbh, xbm, xbi, xbf, xbg, xbe, xbj, xbl, xbk, xba, xbd, xbb, xbc, x7b, x7c, x7a, x7e, x7d, x78, x79, xb5, xb9, xb6, xb8, xb7, x00, x01, x8j, x8c, x18, x19, x1a, xb3, xb4, x0j, x0g, x0i, x0h, x8d, x8e, x8g, x8f, x82, x83, x84, xat, xar, xas, xal, xak, xap, xao, xan, xam, xeh, x07, x03, x04, x05, x06, x08, x09, x6j, x6c, x6d, x6e, x6f, x6g, x6h, x6i, x2q, x2p, x2r, x2s, xav, xaq, x77, x76, x3m, x3l, xa3, xa4, xab, xac, xad, xae, xaf, xag, xah, xai, xa5, xa6, xa7, xa8, xa9, xaa, xaj, x89, x8a, x8h, x8i, x9m, x9n, x9o, x9p, x9q, x9r, x9s, x6x, x6v, x6w, x20, x1v, x1w, x1y, x1x, x1z, x4v, x4t, x4u, x4q, x4r, x4s, x5b, x1b, x1i, x1h, x1g, x1d, x74, x75, x73, x6z, x6y, x72, x70, x71, x9e, x5k, x5l, x5m, x5n, x8x, x8y, x8z, x90, x91, x92, x93, x2v, x2t, x2u, xei, xej, xek, xel, x8w, x98, x99, xb1, xb2, xb0, xaz, x81, x80, x87, x88, x85, x86, xd1, xd0, x8t, x8s, x6r, x6n, x6p, x6o, x8b, x6k, x6l, x6m, x7z, x1c, x2b, x8v, x9f, x9v, x9w, x9u, x9t, x59, x5a, x8u, x97, x35, x34, x0o, x0a, x0b, x0d, x0c, x0e, x0p, x0q, x0r, x12, x0z, x10, x11, x5o, x5g, x9g, x9a, x9b, x9c, x9d, x0n, x0l, x0m, x36, xef, xeg, x4p, x4o, xax, xay, x53, x55, x54, xaw, xau, x3f, x3e, x3d, x3g, x8p, x8o, x8q, x8r, x7r, x7p, x7q, x7o, x7m, x7k, x7l, x7n, x7i, x7h, x7f, x7g, x14, x16, x17, x15, x13, x1f, x1e, x5j, x5h, x5i, x57, x58, x56, x27, x2a, x29, x28, x9k, x9j, x9l, x9i, x1j, x21, x22, x23, x26, x25, x24, x7v, x7w, x3n, x3h, x3i, x7j, x7s, x7t, x7u, x96, x95, x94, x5e, x5f, x5c, x3p, x3q, x3r, x3s, x3t, x3u, x3v, x3w, x3x, x4a, x4l, x49, x4b, x4c, x3j, x2o, x2j, x2d, x2i, x2m, x2n, x2c, x2h, x2g, x2f, x2e, x2k, x6s, x6u, x6t, x2x, x7y, x2w, x7x, x5u, x5r, x5q, x5v, x5s, x5p, x5t, x6a, x67, x66, x6b, x68, x65, x69, x5z, x5x, x5y, x5w, x60, x64, x63, x61, x62, xbn, xd2, xbt, xd8, xbo, xd3, xbr, xd6, xbp, xd4, xbq, xd5, xbs, xd7, xct, xe8, xcz, xee, xcu, xe9, xcx, xec, xcv, xea, xcw, xeb, xcy, xed, xbu, xd9, xc0, xdf, xbv, xda, xby, xdd, xbw, xdb, xbx, xdc, xbz, xde, xcf, xdu, xcl, xe0, xcg, xdv, xcj, xdy, xch, xdw, xci, xdx, xck, xdz, xc1, xdg, xc7, xdm, xc2, xdh, xc5, xdk, xc3, xdi, xc4, xdj, xc6, xdl, xc8, xdn, xce, xdt, xc9, xdo, xcc, xdr, xca, xdp, xcb, xdq, xcd, xds, xcm, xe1, xcs, xe7, xcn, xe2, xcq, xe5, xco, xe3, xcp, xe4, xcr, xe6, x8k, x8l, x8m, x8n, x0s, x0t, x0u, x0v, x0w, x0x, x0y, x3y, x4n, x41, x4e, x44, x4j, x47, x4g, x4m, x40, x4d, x43, x4i, x46, x4h, x3z, x42, x4f, x45, x4k, x48, x37, x3c, x38, x39, x3a, x3b, x1n, x1o, x1p, x1q, x1r, x1s, x1t, x1u, x1k, x1l, x1m, List.getElem?_cons_zero, List.getElem?_cons_succ, List.set_cons_zero, List.set_cons_succ, List.replicate, List.cons_append, List.nil_append, List.take_succ_cons, List.take_zero, List.getD_cons_zero, List.getD_cons_succ, List.map_cons, List.map_nil, if_true, if_false, Bool.true_and, Bool.and_true, Bool.false_and, Bool.and_false, Bool.true_or, Bool.or_true, Bool.false_or, Bool.or_false, Bool.not_true, Bool.not_false, reduceIte, Bool.false_eq_true, eq_self, Nat.sub_self, sc, noL, noLAll, Option.map_some, Int.toNat_natCast, Nat.reduceSub, Nat.reduceAdd, decide_true, decide_false, List.length_cons, List.length_nil, Int.reduceLT, Int.reduceLE, Int.reduceAdd, Int.reduceMul, Int.reduceSub, Int.reduceNeg, Int.reduceToNat, Int.reducePow, Int.reduceMod, Int.reduceDiv, Int.reduceEq, Nat.reducePow, Nat.reduceMul, Nat.reduceLT, Nat.reduceLeDiff, Int.ofNat_zero, Int.natCast_zero, Int.natCast_one, Int.ofNat_eq_natCast, Int.natCast_nonneg, beq_self_eq_true, Option.isNone_none, Option.isNone_some, Bool.not_eq_true, List.append_nil, Option.bind_some, List.lookup_cons, List.contains_nil, List.contains_cons, c, ne_eq, not_true_eq_false]
  · simp only [x02, x9h, xa1, xa0, x9y, x9z, x9x, x33, x30, x2y, x2z, x32, x31, x52, x50, x4z, x51, x4y, x4w, x4x, xbh, xbm, xbi, xbf, xbg, xbe, xbj, xbl, xbk, xba, xbd, xbb, xbc, x7b, x7c, x7a, x7e, x7d, x78, x79, xb5, xb9, xb6, xb8, xb7, x00, x01, x8j, x8c, x18, x19, x1a, xb3, xb4, x0j, x0g, x0i, x0h, x8d, x8e, x8g, x8f, x82, x83, x84, xat, xar, xas, xal, xak, xap, xao, xan, xam, xeh, x07, x03, x04, x05, x06, x08, x09, x6j, x6c, x6d, x6e, x6f, x6g, x6h, x6i, x2q, x2p, x2r, x2s, xav, xaq, x77, x76, x3m, x3l, xa3, xa4, xab, xac, xad, xae, xaf, xag, xah, xai, xa5, xa6, xa7, xa8, xa9, xaa, xaj, x89, x8a, x8h, x8i, x9m, x9n, x9o, x9p, x9q, x9r, x9s, x6x, x6v, x6w, x20, x1v, x1w, x1y, x1x, x1z, x4v, x4t, x4u, x4q, x4r, x4s, x5b, x1b, x1i, x1h, x1g, x1d, x74, x75, x73, x6z, x6y, x72, x70, x71, x9e, x5k, x5l, x5m, x5n, x8x, x8y, x8z, x90, x91, x92, x93, x2v, x2t, x2u, xei, xej, xek, xel, x8w, x98, x99, xb1, xb2, xb0, xaz, x81, x80, x87, x88, x85, x86, xd1, xd0, x8t, x8s, x6r, x6n, x6p, x6o, x8b, x6k, x6l, x6m, x7z, x1c, x2b, x8v, x9f, x9v, x9w, x9u, x9t, x59, x5a, x8u, x97, x35, x34, x0o, x0a, x0b, x0d, x0c, x0e, x0p, x0q, x0r, x12, x0z, x10, x11, x5o, x5g, x9g, x9a, x9b, x9c, x9d, x0n, x0l, x0m, x36, xef, xeg, x4p, x4o, xax, xay, x53, x55, x54, xaw, xau, x3f, x3e, x3d, x3g, x8p, x8o, x8q, x8r, x7r, x7p, x7q, x7o, x7m, x7k, x7l, x7n, x7i, x7h, x7f, x7g, x14, x16, x17, x15, x13, x1f, x1e, x5j, x5h, x5i, x57, x58, x56, x27, x2a, x29, x28, x9k, x9j, x9l, x9i, x1j, x21, x22, x23, x26, x25, x24, x7v, x7w, x3n, x3h, x3i, x7j, x7s, x7t, x7u, x96, x95, x94, x5e, x5f, x5c, x3p, x3q, x3r, x3s, x3t, x3u, x3v, x3w, x3x, x4a, x4l, x49, x4b, x4c, x3j, x2o, x2j, x2d, x2i, x2m, x2n, x2c, x2h, x2g, x2f, x2e, x2k, x6s, x6u, x6t, x2x, x7y, x2w, x7x, x5u, x5r, x5q, x5v, x5s, x5p, x5t, x6a, x67, x66, x6b, x68, x65, x69, x5z, x5x, x5y, x5w, x60, x64, x63, x61, x62, xbn, xd2, xbt, xd8, xbo, xd3, xbr, xd6, xbp, xd4, xbq, xd5, xbs, xd7, xct, xe8, xcz, xee, xcu, xe9, xcx, xec, xcv, xea, xcw, xeb, xcy, xed, xbu, xd9, xc0, xdf, xbv, xda, xby, xdd, xbw, xdb, xbx, xdc, xbz, xde, xcf, xdu, xcl, xe0, xcg, xdv, xcj, xdy, xch, xdw, xci, xdx, xck, xdz, xc1, xdg, xc7, xdm, xc2, xdh, xc5, xdk, xc3, xdi, xc4, xdj, xc6, xdl, xc8, xdn, xce, xdt, xc9, xdo, xcc, xdr, xca, xdp, xcb, xdq, xcd, xds, xcm, xe1, xcs, xe7, xcn, xe2, xcq, xe5, xco, xe3, xcp, xe4, xcr, xe6, x8k, x8l, x8m, x8n, x0s, x0t, x0u, x0v, x0w, x0x, x0y, x3y, x4n, x41, x4e, x44, x4j, x47, x4g, x4m, x40, x4d, x43, x4i, x46, x4h, x3z, x42, x4f, x45, x4k, x48, x37, x3c, x38, x39, x3a, x3b, x1n, x1o, x1p, x1q, x1r, x1s, x1t, x1u, x1k, x1l, x1m, List.getElem?_cons_zero, List.getElem?_cons_succ, List.set_cons_zero, List.set_cons_succ, List.replicate, List.cons_append, List.nil_append, List.take_succ_cons, List.take_zero, List.getD_cons_zero, List.getD_cons_succ, List.map_cons, List.map_nil, if_true, if_false, Bool.true_and, Bool.and_true, Bool.false_and, Bool.and_false, Bool.true_or, Bool.or_true, Bool.false_or, Bool.or_false, Bool.not_true, Bool.not_false, reduceIte, Bool.false_eq_true, eq_self, Nat.sub_self, sc, noL, noLAll, Option.map_some, Int.toNat_natCast, Nat.reduceSub, Nat.reduceAdd, decide_true, decide_false, List.length_cons, List.length_nil, Int.reduceLT, Int.reduceLE, Int.reduceAdd, Int.reduceMul, Int.reduceSub, Int.reduceNeg, Int.reduceToNat, Int.reducePow, Int.reduceMod, Int.reduceDiv, Int.reduceEq, Nat.reducePow, Nat.reduceMul, Nat.reduceLT, Nat.reduceLeDiff, Int.ofNat_zero, Int.natCast_zero, Int.natCast_one, Int.ofNat_eq_natCast, Int.natCast_nonneg, beq_self_eq_true, Option.isNone_none, Option.isNone_some, Bool.not_eq_true, List.append_nil, Option.bind_some, List.lookup_cons, List.contains_nil, List.contains_cons, c, ne_eq, not_false_eq_true, atI_map _ _ _ h, atI_map _ _ _ h2]
theorem r_llost (p : Part) (s : Sheet) (w : List Bool) (h : p.ok s.length) (h2 : w.length = s.length) : f_l_lost [.v false (dPart p), .v false (dS s), .v false (dB w)] = some (.v true (.bool (p.lost s w)), [.v false (dPart p), .v false (dS s), .v false (dB w)]) := by
  unfold f_l_lost b_l_lost if_l_lost_1 if_l_lost_2 if_l_lost_3
  cases p with
  | inn t =>
    have ht : t < s.length := h t (List.mem_cons_self ..)
    have ht2 : t < w.length := by rw [h2]; exact ht
    have g := r_free s w t ht ht2
    unfold dPart Part.lost
    simp only [x02, x9h, xa1, xa0, x9y, x9z, x9x, x33, x30, x2y, x2z, x32, x31, x52, x50, x4z, x51, x4y, x4w, x4x, xbh, xbm, xbi, xbf, xbg, xbe, xbj, xbl, xbk, xba, xbd, xbb, xbc, x7b, x7c, x7a, x7e, x7d, x78, x79, xb5, xb9, xb6, xb8, xb7, x00, x01, x8j, x8c, x18, x19, x1a, xb3, xb4, x0j, x0g, x0i, x0h, x8d, x8e, x8g, x8f, x82, x83, x84, xat, xar, xas, xal, xak, xap, xao, xan, xam, xeh, x07, x03, x04, x05, x06, x08, x09, x6j, x6c, x6d, x6e, x6f, x6g, x6h, x6i, x2q, x2p, x2r, x2s, xav, xaq, x77, x76, x3m, x3l, xa3, xa4, xab, xac, xad, xae, xaf, xag, xah, xai, xa5, xa6, xa7, xa8, xa9, xaa, xaj, x89, x8a, x8h, x8i, x9m, x9n, x9o, x9p, x9q, x9r, x9s, x6x, x6v, x6w, x20, x1v, x1w, x1y, x1x, x1z, x4v, x4t, x4u, x4q, x4r, x4s, x5b, x1b, x1i, x1h, x1g, x1d, x74, x75, x73, x6z, x6y, x72, x70, x71, x9e, x5k, x5l, x5m, x5n, x8x, x8y, x8z, x90, x91, x92, x93, x2v, x2t, x2u, xei, xej, xek, xel, x8w, x98, x99, xb1, xb2, xb0, xaz, x81, x80, x87, x88, x85, x86, xd1, xd0, x8t, x8s, x6r, x6n, x6p, x6o, x8b, x6k, x6l, x6m, x7z, x1c, x2b, x8v, x9f, x9v, x9w, x9u, x9t, x59, x5a, x8u, x97, x35, x34, x0o, x0a, x0b, x0d, x0c, x0e, x0p, x0q, x0r, x12, x0z, x10, x11, x5o, x5g, x9g, x9a, x9b, x9c, x9d, x0n, x0l, x0m, x36, xef, xeg, x4p, x4o, xax, xay, x53, x55, x54, xaw, xau, x3f, x3e, x3d, x3g, x8p, x8o, x8q, x8r, x7r, x7p, x7q, x7o, x7m, x7k, x7l, x7n, x7i, x7h, x7f, x7g, x14, x16, x17, x15, x13, x1f, x1e, x5j, x5h, x5i, x57, x58, x56, x27, x2a, x29, x28, x9k, x9j, x9l, x9i, x1j, x21, x22, x23, x26, x25, x24, x7v, x7w, x3n, x3h, x3i, x7j, x7s, x7t, x7u, x96, x95, x94, x5e, x5f, x5c, x3p, x3q, x3r, x3s, x3t, x3u, x3v, x3w, x3x, x4a, x4l, x49, x4b, x4c, x3j, x2o, x2j, x2d, x2i, x2m, x2n, x2c, x2h, x2g, x2f, x2e, x2k, x6s, x6u, x6t, x2x, x7y, x2w, x7x, x5u, x5r, x5q, x5v, x5s, x5p, x5t, x6a, x67, x66, x6b, x68, x65, x69, x5z, x5x, x5y, x5w, x60, x64, x63, x61, x62, xbn, xd2, xbt, xd8, xbo, xd3, xbr, xd6, xbp, xd4, xbq, xd5, xbs, xd7, xct, xe8, xcz, xee, xcu, xe9, xcx, xec, xcv, xea, xcw, xeb, xcy, xed, xbu, xd9, xc0, xdf, xbv, xda, xby, xdd, xbw, xdb, xbx, xdc, xbz, xde, xcf, xdu, xcl, xe0, xcg, xdv, xcj, xdy, xch, xdw, xci, xdx, xck, xdz, xc1, xdg, xc7, xdm, xc2, xdh, xc5, xdk, xc3, xdi, xc4, xdj, xc6, xdl, xc8, xdn, xce, xdt, xc9, xdo, xcc, xdr, xca, xdp, xcb, xdq, xcd, xds, xcm, xe1, xcs, xe7, xcn, xe2, xcq, xe5, xco, xe3, xcp, xe4, xcr, xe6, x8k, x8l, x8m, x8n, x0s, x0t, x0u, x0v, x0w, x0x, x0y, x3y, x4n, x41, x4e, x44, x4j, x47, x4g, x4m, x40, x4d, x43, x4i, x46, x4h, x3z, x42, x4f, x45, x4k, x48, x37, x3c, x38, x39, x3a, x3b, x1n, x1o, x1p, x1q, x1r, x1s, x1t, x1u, x1k, x1l, x1m, List.getElem?_cons_zero, List.getElem?_cons_succ, List.set_cons_zero, List.set_cons_succ, List.replicate, List.cons_append, List.nil_append, List.take_succ_cons, List.take_zero, List.getD_cons_zero, List.getD_cons_succ, List.map_cons, List.map_nil, if_true, if_false, Bool.true_and, Bool.and_true, Bool.false_and, Bool.and_false, Bool.true_or, Bool.or_true, Bool.false_or, Bool.or_false, Bool.not_true, Bool.not_false, reduceIte, Bool.false_eq_true, eq_self, Nat.sub_self, sc, noL, noLAll, Option.map_some, Int.toNat_natCast, Nat.reduceSub, Nat.reduceAdd, decide_true, decide_false, List.length_cons, List.length_nil, Int.reduceLT, Int.reduceLE, Int.reduceAdd, Int.reduceMul, Int.reduceSub, Int.reduceNeg, Int.reduceToNat, Int.reducePow, Int.reduceMod, Int.reduceDiv, Int.reduceEq, Nat.reducePow, Nat.reduceMul, Nat.reduceLT, Nat.reduceLeDiff, Int.ofNat_zero, Int.natCast_zero, Int.natCast_one, Int.ofNat_eq_natCast, Int.natCast_nonneg, beq_self_eq_true, Option.isNone_none, Option.isNone_some, Bool.not_eq_true, List.append_nil, Option.bind_some, List.lookup_cons, List.contains_nil, List.contains_cons, g, getD_ob _ _ ht, getD_of_lt _ _ ht2]
    by_cases c : s[t] = some false
    · simp only [x02, x9h, xa1, xa0, x9y, x9z, x9x, x33, x30, x2y, x2z, x32, x31, x52, x50, x4z, x51, x4y, x4w, x4x, xbh, xbm, xbi, xbf, xbg, xbe, xbj, xbl, xbk, xba, xbd, xbb, xbc, x7b, x7c, x7a, x7e, x7d, x78, x79, xb5, xb9, xb6, xb8, xb7, x00, x01, x8j, x8c, x18, x19, x1a, xb3, xb4, x0j, x0g, x0i, x0h, x8d, x8e, x8g, x8f, x82, x83, x84, xat, xar, xas, xal, xak, xap, xao, xan, xam, xeh, x07, x03, x04, x05, x06, x08, x09, x6j, x6c, x6d, x6e, x6f, x6g, x6h, x6i, x2q, x2p, x2r, x2s, xav, xaq, x77, x76, x3m, x3l, xa3, xa4, xab, xac, xad, xae, xaf, xag, xah, xai, xa5, xa6, xa7, xa8, xa9, xaa, xaj, x89, x8a, x8h, x8i, x9m, x9n, x9o, x9p, x9q, x9r, x9s, x6x, x6v, x6w, x20, x1v, x1w, x1y, x1x, x1z, x4v, x4t, x4u, x4q, x4r, x4s, x5b, x1b, x1i, x1h, x1g, x1d, x74, x75, x73, x6z, x6y, x72, x70, x71, x9e, x5k, x5l, x5m, x5n, x8x, x8y, x8z, x90, x91, x92, x93, x2v, x2t, x2u, xei, xej, xek, xel, x8w, x98, x99, xb1, xb2, xb0, xaz, x81, x80, x87, x88, x85, x86, xd1, xd0, x8t, x8s, x6r, x6n, x6p, x6o, x8b, x6k, x6l, x6m, x7z, x1c, x2b, x8v, x9f, x9v, x9w, x9u, x9t, x59, x5a, x8u, x97, x35, x34, x0o, x0a, x0b, x0d, x0c, x0e, x0p, x0q, x0r, x12, x0z, x10, x11, x5o, x5g, x9g, x9a, x9b, x9c, x9d, x0n, x0l, x0m, x36, xef, xeg, x4p, x4o, xax, xay, x53, x55, x54, xaw, xau, x3f, x3e, x3d, x3g, x8p, x8o, x8q, x8r, x7r, x7p, x7q, x7o, x7m, x7k, x7l, x7n, x7i, x7h, x7f, x7g, x14, x16, x17, x15, x13, x1f, x1e, x5j, x5h, x5i, x57, x58, x56, x27, x2a, x29, x28, x9k, x9j, x9l, x9i, x1j, x21, x22, x23, x26, x25, x24, x7v, x7w, x3n, x3h, x3i, x7j, x7s, x7t, x7u, x96, x95, x94, x5e, x5f, x5c, x3p, x3q, x3r, x3s, x3t, x3u, x3v, x3w, x3x, x4a, x4l, x49, x4b, x4c, x3j, x2o, x2j, x2d, x2i, x2m, x2n, x2c, x2h, x2g, x2f, x2e, x2k, x6s, x6u, x6t, x2x, x7y, x2w, x7x, x5u, x5r, x5q, x5v, x5s, x5p, x5t, x6a, x67, x66, x6b, x68, x65, x69, x5z, x5x, x5y, x5w, x60, x64, x63, x61, x62, xbn, xd2, xbt, xd8, xbo, xd3, xbr, xd6, xbp, xd4, xbq, xd5, xbs, xd7, xct, xe8, xcz, xee, xcu, xe9, xcx, xec, xcv, xea, xcw, xeb, xcy, xed, xbu, xd9, xc0, xdf, xbv, xda, xby, xdd, xbw, xdb, xbx, xdc, xbz, xde, xcf, xdu, xcl, xe0, xcg, xdv, xcj, xdy, xch, xdw, xci, xdx, xck, xdz, xc1, xdg, xc7, xdm, xc2, xdh, xc5, xdk, xc3, xdi, xc4, xdj, xc6, xdl, xc8, xdn, xce, xdt, xc9, xdo, xcc, xdr, xca, xdp, xcb, xdq, xcd, xds, xcm, xe1, xcs, xe7, xcn, xe2, xcq, xe5, xco, xe3, xcp, xe4, xcr, xe6, x8k, x8l, x8m, x8n, x0s, x0t, x0u, x0v, x0w, x0x, x0y, x3y, x4n, x41, x4e, x44, x4j, x47, x4g, x4m, x40, x4d, x43, x4i, x46, x4h, x3z, x42, x4f, x45, x4k, x48, x37, x3c, x38, x39, x3a, x3b, x1n, x1o, x1p, x1q, x1r, x1s, x1t, x1u, x1k, x1l, x1m, List.getElem?_cons_zero, List.getElem?_cons_succ, List.set_cons_zero, List.set_cons_succ, List.replicate, List.cons_append, List.nil_append, List.take_succ_cons, List.take_zero, List.getD_cons_zero, List.getD_cons_succ, List.map_cons, List.map_nil, if_true, if_false, Bool.true_and, Bool.and_true, Bool.false_and, Bool.and_false, Bool.true_or, Bool.or_true, Bool.false_or, Bool.or_false, Bool.not_true, Bool.not_false, reduceIte, Bool.false_eq_true, eq_self, Nat.sub_self, sc, noL, noLAll, Option.map_some, Int.toNat_natCast, Nat.reduceSub, Nat.reduceAdd, decide_true, decide_false, List.length_cons, List.length_nil, Int.reduceLT, Int.reduceLE, Int.reduceAdd, Int.reduceMul, Int.reduceSub, Int.reduceNeg, Int.reduceToNat, Int.reducePow, Int.reduceMod, Int.reduceDiv, Int.reduceEq, Nat.reducePow, Nat.reduceMul, Nat.reduceLT, Nat.reduceLeDiff, Int.ofNat_zero, Int.natCast_zero, Int.natCast_one, Int.ofNat_eq_natCast, Int.natCast_nonneg, beq_self_eq_true, Option.isNone_none, Option.isNone_some, Bool.not_eq_true, List.append_nil, Option.bind_some, List.lookup_cons, List.contains_nil, List.contains_cons, c, ne_eq, not_true_eq_false]
    · simp only [x02, x9h, xa1, xa0, x9y, x9z, x9x, x33, x30, x2y, x2z, x32, x31, x52, x50, x4z, x51, x4y, x4w, x4x, xbh, xbm, xbi, xbf, xbg, xbe, xbj, xbl, xbk, xba, xbd, xbb, xbc, x7b, x7c, x7a, x7e, x7d, x78, x79, xb5, xb9, xb6, xb8, xb7, x00, x01, x8j, x8c, x18, x19, x1a, xb3, xb4, x0j, x0g, x0i, x0h, x8d, x8e, x8g, x8f, x82, x83, x84, xat, xar, xas, xal, xak, xap, xao, xan, xam, xeh, x07, x03, x04, x05, x06, x08, x09, x6j, x6c, x6d, x6e, x6f, x6g, x6h, x6i, x2q, x2p, x2r, x2s, xav, xaq, x77, x76, x3m, x3l, xa3, xa4, xab, xac, xad, xae, xaf, xag, xah, xai, xa5, xa6, xa7, xa8, xa9, xaa, xaj, x89, x8a, x8h, x8i, x9m, x9n, x9o, x9p, x9q, x9r, x9s, x6x, x6v, x6w, x20, x1v, x1w, x1y, x1x, x1z, x4v, x4t, x4u, x4q, x4r, x4s, x5b, x1b, x1i, x1h, x1g, x1d, x74, x75, x73, x6z, x6y, x72, x70, x71, x9e, x5k, x5l, x5m, x5n, x8x, x8y, x8z, x90, x91, x92, x93, x2v, x2t, x2u, xei, xej, xek, xel, x8w, x98, x99, xb1, xb2, xb0, xaz, x81, x80, x87, x88, x85, x86, xd1, xd0, x8t, x8s, x6r, x6n, x6p, x6o, x8b, x6k, x6l, x6m, x7z, x1c, x2b, x8v, x9f, x9v, x9w, x9u, x9t, x59, x5a, x8u, x97, x35, x34, x0o, x0a, x0b, x0d, x0c, x0e, x0p, x0q, x0r, x12, x0z, x10, x11, x5o, x5g, x9g, x9a, x9b, x9c, x9d, x0n, x0l, x0m, x36, xef, xeg, x4p, x4o, xax, xay, x53, x55, x54, xaw, xau, x3f, x3e, x3d, x3g, x8p, x8o, x8q, x8r, x7r, x7p, x7q, x7o, x7m, x7k, x7l, x7n, x7i, x7h, x7f, x7g, x14, x16, x17, x15, x13, x1f, x1e, x5j, x5h, x5i, x57, x58, x56, x27, x2a, x29, x28, x9k, x9j, x9l, x9i, x1j, x21, x22, x23, x26, x25, x24, x7v, x7w, x3n, x3h, x3i, x7j, x7s, x7t, x7u, x96, x95, x94, x5e, x5f, x5c, x3p, x3q, x3r, x3s, x3t, x3u, x3v, x3w, x3x, x4a, x4l, x49, x4b, x4c, x3j, x2o, x2j, x2d, x2i, x2m, x2n, x2c, x2h, x2g, x2f, x2e, x2k, x6s, x6u, x6t, x2x, x7y, x2w, x7x, x5u, x5r, x5q, x5v, x5s, x5p, x5t, x6a, x67, x66, x6b, x68, x65, x69, x5z, x5x, x5y, x5w, x60, x64, x63, x61, x62, xbn, xd2, xbt, xd8, xbo, xd3, xbr, xd6, xbp, xd4, xbq, xd5, xbs, xd7, xct, xe8, xcz, xee, xcu, xe9, xcx, xec, xcv, xea, xcw, xeb, xcy, xed, xbu, xd9, xc0, xdf, xbv, xda, xby, xdd, xbw, xdb, xbx, xdc, xbz, xde, xcf, xdu, xcl, xe0, xcg, xdv, xcj, xdy, xch, xdw, xci, xdx, xck, xdz, xc1, xdg, xc7, xdm, xc2, xdh, xc5, xdk, xc3, xdi, xc4, xdj, xc6, xdl, xc8, xdn, xce, xdt, xc9, xdo, xcc, xdr, xca, xdp, xcb, xdq, xcd, xds, xcm, xe1, xcs, xe7, xcn, xe2, xcq, xe5, xco, xe3, xcp, xe4, xcr, xe6, x8k, x8l, x8m, x8n, x0s, x0t, x0u, x0v, x0w, x0x, x0y, x3y, x4n, x41, x4e, x44, x4j, x47, x4g, x4m, x40, x4d, x43, x4i, x46, x4h, x3z, x42, x4f, x45, x4k, x48, x37, x3c, x38, x39, x3a, x3b, x1n, x1o, x1p, x1q, x1r, x1s, x1t, x1u, x1k, x1l, x1m, List.getElem?_cons_zero, List.getElem?_cons_succ, List.set_cons_zero, List.set_cons_succ, List.replicate, List.cons_append, List.nil_append, List.take_succ_cons, List.take_zero, List.getD_cons_zero, List.getD_cons_succ, List.map_cons, List.map_nil, if_true, if_false, Bool.true_and, Bool.and_true, Bool.false_and, Bool.and_false, Bool.true_or, Bool.or_true, Bool.false_or, Bool.or_false, Bool.not_true, Bool.not_false, reduceIte, Bool.false_eq_true, eq_self, Nat.sub_self, sc, noL, noLAll, Option.map_some, Int.toNat_natCast, Nat.reduceSub, Nat.reduceAdd, decide_true, decide_false, List.length_cons, List.length_nil, Int.reduceLT, Int.reduceLE, Int.reduceAdd, Int.reduceMul, Int.reduceSub, Int.reduceNeg, Int.reduceToNat, Int.reducePow, Int.reduceMod, Int.reduceDiv, Int.reduceEq, Nat.reducePow, Nat.reduceMul, Nat.reduceLT, Nat.reduceLeDiff, Int.ofNat_zero, Int.natCast_zero, Int.natCast_one, Int.ofNat_eq_natCast, Int.natCast_nonneg, beq_self_eq_true, Option.isNone_none, Option.isNone_some, Bool.not_eq_true, List.append_nil, Option.bind_some, List.lookup_cons, List.contains_nil, List.contains_cons, c, ne_eq, not_false_eq_true, Bool.not_not]
  | out t =>
    have ht : t < s.length := h t (List.mem_cons_self ..)
    unfold dPart Part.lost
    simp only [x02, x9h, xa1, xa0, x9y, x9z, x9x, x33, x30, x2y, x2z, x32, x31, x52, x50, x4z, x51, x4y, x4w, x4x, xbh, xbm, xbi, xbf, xbg, xbe, xbj, xbl, xbk, xba, xbd, xbb, xbc, x7b, x7c, x7a, x7e, x7d, x78, x79, xb5, xb9, xb6, xb8, xb7, x00, x01, x8j, x8c, x18, x19, x1a, xb3, xb4, x0j, x0g, x0i, x0h, x8d, x8e, x8g, x8f, x82, x83, x84, xat, xar, xas, xal, xak, xap, xao, xan, xam, xeh, x07, x03, x04, x05, x06, x08, x09, x6j, x6c, x6d, x6e, x6f, x6g, x6h, x6i, x2q, x2p, x2r, x2s, xav, xaq, x77, x76, x3m, x3l, xa3, xa4, xab, xac, xad, xae, xaf, xag, xah, xai, xa5, xa6, xa7, xa8, xa9, xaa, xaj, x89, x8a, x8h, x8i, x9m, x9n, x9o, x9p, x9q, x9r, x9s, x6x, x6v, x6w, x20, x1v, x1w, x1y, x1x, x1z, x4v, x4t, x4u, x4q, x4r, x4s, x5b, x1b, x1i, x1h, x1g, x1d, x74, x75, x73, x6z, x6y, x72, x70, x71, x9e, x5k, x5l, x5m, x5n, x8x, x8y, x8z, x90, x91, x92, x93, x2v, x2t, x2u, xei, xej, xek, xel, x8w, x98, x99, xb1, xb2, xb0, xaz, x81, x80, x87, x88, x85, x86, xd1, xd0, x8t, x8s, x6r, x6n, x6p, x6o, x8b, x6k, x6l, x6m, x7z, x1c, x2b, x8v, x9f, x9v, x9w, x9u, x9t, x59, x5a, x8u, x97, x35, x34, x0o, x0a, x0b, x0d, x0c, x0e, x0p, x0q, x0r, x12, x0z, x10, x11, x5o, x5g, x9g, x9a, x9b, x9c, x9d, x0n, x0l, x0m, x36, xef, xeg, x4p, x4o, xax, xay, x53, x55, x54, xaw, xau, x3f, x3e, x3d, x3g, x8p, x8o, x8q, x8r, x7r, x7p, x7q, x7o, x7m, x7k, x7l, x7n, x7i, x7h, x7f, x7g, x14, x16, x17, x15, x13, x1f, x1e, x5j, x5h, x5i, x57, x58, x56, x27, x2a, x29, x28, x9k, x9j, x9l, x9i, x1j, x21, x22, x23, x26, x25, x24, x7v, x7w, x3n, x3h, x3i, x7j, x7s, x7t, x7u, x96, x95, x94, x5e, x5f, x5c, x3p, x3q, x3r, x3s, x3t, x3u, x3v, x3w, x3x, x4a, x4l, x49, x4b, x4c, x3j, x2o, x2j, x2d, x2i, x2m, x2n, x2c, x2h, x2g, x2f, x2e, x2k, x6s, x6u, x6t, x2x, x7y, x2w, x7x, x5u, x5r, x5q, x5v, x5s, x5p, x5t, x6a, x67, x66, x6b, x68, x65, x69, x5z, x5x, x5y, x5w, x60, x64, x63, x61, x62, xbn, xd2, xbt, xd8, xbo, xd3, xbr, xd6, xbp, xd4, xbq, xd5, xbs, xd7, xct, xe8, xcz, xee, xcu, xe9, xcx, xec, xcv, xea, xcw, xeb, xcy, xed, xbu, xd9, xc0, xdf, xbv, xda, xby, xdd, xbw, xdb, xbx, xdc, xbz, xde, xcf, xdu, xcl, xe0, xcg, xdv, xcj, xdy, xch, xdw, xci, xdx, xck, xdz, xc1, xdg, xc7, xdm, xc2, xdh, xc5, xdk, xc3, xdi, xc4, xdj, xc6, xdl, xc8, xdn, xce, xdt, xc9, xdo, xcc, xdr, xca, xdp, xcb, xdq, xcd, xds, xcm, xe1, xcs, xe7, xcn, xe2, xcq, xe5, xco, xe3, xcp, xe4, xcr, xe6, x8k, x8l, x8m, x8n, x0s, x0t, x0u, x0v, x0w, x0x, x0y, x3y, x4n, x41, x4e, x44, x4j, x47, x4g, x4m, x40, x4d, x43, x4i, x46, x4h, x3z, x42, x4f, x45, x4k, x48, x37, x3c, x38, x39, x3a, x3b, x1n, x1o, x1p, x1q, x1r, x1s, x1t, x1u, x1k, x1l, x1m, List.getElem?_cons_zero, List.getElem?_cons_succ, List.set_cons_zero, List.set_cons_succ, List.replicate, List.cons_append, List.nil_append, List.take_succ_cons, List.take_zero, List.getD_cons_zero, List.getD_cons_succ, List.map_cons, List.map_nil, if_true, if_false, Bool.true_and, Bool.and_true, Bool.false_and, Bool.and_false, Bool.true_or, Bool.or_true, Bool.false_or, Bool.or_false, Bool.not_true, Bool.not_false, reduceIte, Bool.false_eq_true, eq_self, Nat.sub_self, sc, noL, noLAll, Option.map_some, Int.toNat_natCast, Nat.reduceSub, Nat.reduceAdd, decide_true, decide_false, List.length_cons, List.length_nil, Int.reduceLT, Int.reduceLE, Int.reduceAdd, Int.reduceMul, Int.reduceSub, Int.reduceNeg, Int.reduceToNat, Int.reducePow, Int.reduceMod, Int.reduceDiv, Int.reduceEq, Nat.reducePow, Nat.reduceMul, Nat.reduceLT, Nat.reduceLeDiff, Int.ofNat_zero, Int.natCast_zero, Int.natCast_one, Int.ofNat_eq_natCast, Int.natCast_nonneg, beq_self_eq_true, Option.isNone_none, Option.isNone_some, Bool.not_eq_true, List.append_nil, Option.bind_some, List.lookup_cons, List.contains_nil, List.contains_cons, atI_map _ _ _ ht, getD_ob _ _ ht, is_ob]
  | least k its =>
    have hp := its_lt h
    unfold dPart Part.lost
    simp only [x02, x9h, xa1, xa0, x9y, x9z, x9x, x33, x30, x2y, x2z, x32, x31, x52, x50, x4z, x51, x4y, x4w, x4x, xbh, xbm, xbi, xbf, xbg, xbe, xbj, xbl, xbk, xba, xbd, xbb, xbc, x7b, x7c, x7a, x7e, x7d, x78, x79, xb5, xb9, xb6, xb8, xb7, x00, x01, x8j, x8c, x18, x19, x1a, xb3, xb4, x0j, x0g, x0i, x0h, x8d, x8e, x8g, x8f, x82, x83, x84, xat, xar, xas, xal, xak, xap, xao, xan, xam, xeh, x07, x03, x04, x05, x06, x08, x09, x6j, x6c, x6d, x6e, x6f, x6g, x6h, x6i, x2q, x2p, x2r, x2s, xav, xaq, x77, x76, x3m, x3l, xa3, xa4, xab, xac, xad, xae, xaf, xag, xah, xai, xa5, xa6, xa7, xa8, xa9, xaa, xaj, x89, x8a, x8h, x8i, x9m, x9n, x9o, x9p, x9q, x9r, x9s, x6x, x6v, x6w, x20, x1v, x1w, x1y, x1x, x1z, x4v, x4t, x4u, x4q, x4r, x4s, x5b, x1b, x1i, x1h, x1g, x1d, x74, x75, x73, x6z, x6y, x72, x70, x71, x9e, x5k, x5l, x5m, x5n, x8x, x8y, x8z, x90, x91, x92, x93, x2v, x2t, x2u, xei, xej, xek, xel, x8w, x98, x99, xb1, xb2, xb0, xaz, x81, x80, x87, x88, x85, x86, xd1, xd0, x8t, x8s, x6r, x6n, x6p, x6o, x8b, x6k, x6l, x6m, x7z, x1c, x2b, x8v, x9f, x9v, x9w, x9u, x9t, x59, x5a, x8u, x97, x35, x34, x0o, x0a, x0b, x0d, x0c, x0e, x0p, x0q, x0r, x12, x0z, x10, x11, x5o, x5g, x9g, x9a, x9b, x9c, x9d, x0n, x0l, x0m, x36, xef, xeg, x4p, x4o, xax, xay, x53, x55, x54, xaw, xau, x3f, x3e, x3d, x3g, x8p, x8o, x8q, x8r, x7r, x7p, x7q, x7o, x7m, x7k, x7l, x7n, x7i, x7h, x7f, x7g, x14, x16, x17, x15, x13, x1f, x1e, x5j, x5h, x5i, x57, x58, x56, x27, x2a, x29, x28, x9k, x9j, x9l, x9i, x1j, x21, x22, x23, x26, x25, x24, x7v, x7w, x3n, x3h, x3i, x7j, x7s, x7t, x7u, x96, x95, x94, x5e, x5f, x5c, x3p, x3q, x3r, x3s, x3t, x3u, x3v, x3w, x3x, x4a, x4l, x49, x4b, x4c, x3j, x2o, x2j, x2d, x2i, x2m, x2n, x2c, x2h, x2g, x2f, x2e, x2k, x6s, x6u, x6t, x2x, x7y, x2w, x7x, x5u, x5r, x5q, x5v, x5s, x5p, x5t, x6a, x67, x66, x6b, x68, x65, x69, x5z, x5x, x5y, x5w, x60, x64, x63, x61, x62, xbn, xd2, xbt, xd8, xbo, xd3, xbr, xd6, xbp, xd4, xbq, xd5, xbs, xd7, xct, xe8, xcz, xee, xcu, xe9, xcx, xec, xcv, xea, xcw, xeb, xcy, xed, xbu, xd9, xc0, xdf, xbv, xda, xby, xdd, xbw, xdb, xbx, xdc, xbz, xde, xcf, xdu, xcl, xe0, xcg, xdv, xcj, xdy, xch, xdw, xci, xdx, xck, xdz, xc1, xdg, xc7, xdm, xc2, xdh, xc5, xdk, xc3, xdi, xc4, xdj, xc6, xdl, xc8, xdn, xce, xdt, xc9, xdo, xcc, xdr, xca, xdp, xcb, xdq, xcd, xds, xcm, xe1, xcs, xe7, xcn, xe2, xcq, xe5, xco, xe3, xcp, xe4, xcr, xe6, x8k, x8l, x8m, x8n, x0s, x0t, x0u, x0v, x0w, x0x, x0y, x3y, x4n, x41, x4e, x44, x4j, x47, x4g, x4m, x40, x4d, x43, x4i, x46, x4h, x3z, x42, x4f, x45, x4k, x48, x37, x3c, x38, x39, x3a, x3b, x1n, x1o, x1p, x1q, x1r, x1s, x1t, x1u, x1k, x1l, x1m, List.getElem?_cons_zero, List.getElem?_cons_succ, List.set_cons_zero, List.set_cons_succ, List.replicate, List.cons_append, List.nil_append, List.take_succ_cons, List.take_zero, List.getD_cons_zero, List.getD_cons_succ, List.map_cons, List.map_nil, if_true, if_false, Bool.true_and, Bool.and_true, Bool.false_and, Bool.and_false, Bool.true_or, Bool.or_true, Bool.false_or, Bool.or_false, Bool.not_true, Bool.not_false, reduceIte, Bool.false_eq_true, eq_self, Nat.sub_self, sc, noL, noLAll, Option.map_some, Int.toNat_natCast, Nat.reduceSub, Nat.reduceAdd, decide_true, decide_false, List.length_cons, List.length_nil, Int.reduceLT, Int.reduceLE, Int.reduceAdd, Int.reduceMul, Int.reduceSub, Int.reduceNeg, Int.reduceToNat, Int.reducePow, Int.reduceMod, Int.reduceDiv, Int.reduceEq, Nat.reducePow, Nat.reduceMul, Nat.reduceLT, Nat.reduceLeDiff, Int.ofNat_zero, Int.natCast_zero, Int.natCast_one, Int.ofNat_eq_natCast, Int.natCast_nonneg, beq_self_eq_true, Option.isNone_none, Option.isNone_some, Bool.not_eq_true, List.append_nil, Option.bind_some, List.lookup_cons, List.contains_nil, List.contains_cons]
    rw [lcLoop_filter (b := false) (p := fun p : Nat × Int => (leftOf s w).getD p.1 false) (g := fun p => .int p.2) (h := fun p hp => by
      have hp' := its_lt h p hp
      have hp2 : p.1 < w.length := by rw [h2]; exact hp'
      rw [leftOf_get _ _ _ hp' hp2]
      have g := r_free s w p.1 hp' hp2
      show lcOne _ _ _ _ _ (dItem p) _ = _
      unfold dItem
      simp only [x02, x9h, xa1, xa0, x9y, x9z, x9x, x33, x30, x2y, x2z, x32, x31, x52, x50, x4z, x51, x4y, x4w, x4x, xbh, xbm, xbi, xbf, xbg, xbe, xbj, xbl, xbk, xba, xbd, xbb, xbc, x7b, x7c, x7a, x7e, x7d, x78, x79, xb5, xb9, xb6, xb8, xb7, x00, x01, x8j, x8c, x18, x19, x1a, xb3, xb4, x0j, x0g, x0i, x0h, x8d, x8e, x8g, x8f, x82, x83, x84, xat, xar, xas, xal, xak, xap, xao, xan, xam, xeh, x07, x03, x04, x05, x06, x08, x09, x6j, x6c, x6d, x6e, x6f, x6g, x6h, x6i, x2q, x2p, x2r, x2s, xav, xaq, x77, x76, x3m, x3l, xa3, xa4, xab, xac, xad, xae, xaf, xag, xah, xai, xa5, xa6, xa7, xa8, xa9, xaa, xaj, x89, x8a, x8h, x8i, x9m, x9n, x9o, x9p, x9q, x9r, x9s, x6x, x6v, x6w, x20, x1v, x1w, x1y, x1x, x1z, x4v, x4t, x4u, x4q, x4r, x4s, x5b, x1b, x1i, x1h, x1g, x1d, x74, x75, x73, x6z, x6y, x72, x70, x71, x9e, x5k, x5l, x5m, x5n, x8x, x8y, x8z, x90, x91, x92, x93, x2v, x2t, x2u, xei, xej, xek, xel, x8w, x98, x99, xb1, xb2, xb0, xaz, x81, x80, x87, x88, x85, x86, xd1, xd0, x8t, x8s, x6r, x6n, x6p, x6o, x8b, x6k, x6l, x6m, x7z, x1c, x2b, x8v, x9f, x9v, x9w, x9u, x9t, x59, x5a, x8u, x97, x35, x34, x0o, x0a, x0b, x0d, x0c, x0e, x0p, x0q, x0r, x12, x0z, x10, x11, x5o, x5g, x9g, x9a, x9b, x9c, x9d, x0n, x0l, x0m, x36, xef, xeg, x4p, x4o, xax, xay, x53, x55, x54, xaw, xau, x3f, x3e, x3d, x3g, x8p, x8o, x8q, x8r, x7r, x7p, x7q, x7o, x7m, x7k, x7l, x7n, x7i, x7h, x7f, x7g, x14, x16, x17, x15, x13, x1f, x1e, x5j, x5h, x5i, x57, x58, x56, x27, x2a, x29, x28, x9k, x9j, x9l, x9i, x1j, x21, x22, x23, x26, x25, x24, x7v, x7w, x3n, x3h, x3i, x7j, x7s, x7t, x7u, x96, x95, x94, x5e, x5f, x5c, x3p, x3q, x3r, x3s, x3t, x3u, x3v, x3w, x3x, x4a, x4l, x49, x4b, x4c, x3j, x2o, x2j, x2d, x2i, x2m, x2n, x2c, x2h, x2g, x2f, x2e, x2k, x6s, x6u, x6t, x2x, x7y, x2w, x7x, x5u, x5r, x5q, x5v, x5s, x5p, x5t, x6a, x67, x66, x6b, x68, x65, x69, x5z, x5x, x5y, x5w, x60, x64, x63, x61, x62, xbn, xd2, xbt, xd8, xbo, xd3, xbr, xd6, xbp, xd4, xbq, xd5, xbs, xd7, xct, xe8, xcz, xee, xcu, xe9, xcx, xec, xcv, xea, xcw, xeb, xcy, xed, xbu, xd9, xc0, xdf, xbv, xda, xby, xdd, xbw, xdb, xbx, xdc, xbz, xde, xcf, xdu, xcl, xe0, xcg, xdv, xcj, xdy, xch, xdw, xci, xdx, xck, xdz, xc1, xdg, xc7, xdm, xc2, xdh, xc5, xdk, xc3, xdi, xc4, xdj, xc6, xdl, xc8, xdn, xce, xdt, xc9, xdo, xcc, xdr, xca, xdp, xcb, xdq, xcd, xds, xcm, xe1, xcs, xe7, xcn, xe2, xcq, xe5, xco, xe3, xcp, xe4, xcr, xe6, x8k, x8l, x8m, x8n, x0s, x0t, x0u, x0v, x0w, x0x, x0y, x3y, x4n, x41, x4e, x44, x4j, x47, x4g, x4m, x40, x4d, x43, x4i, x46, x4h, x3z, x42, x4f, x45, x4k, x48, x37, x3c, x38, x39, x3a, x3b, x1n, x1o, x1p, x1q, x1r, x1s, x1t, x1u, x1k, x1l, x1m, List.getElem?_cons_zero, List.getElem?_cons_succ, List.set_cons_zero, List.set_cons_succ, List.replicate, List.cons_append, List.nil_append, List.take_succ_cons, List.take_zero, List.getD_cons_zero, List.getD_cons_succ, List.map_cons, List.map_nil, if_true, if_false, Bool.true_and, Bool.and_true, Bool.false_and, Bool.and_false, Bool.true_or, Bool.or_true, Bool.false_or, Bool.or_false, Bool.not_true, Bool.not_false, reduceIte, Bool.false_eq_true, eq_self, Nat.sub_self, sc, noL, noLAll, Option.map_some, Int.toNat_natCast, Nat.reduceSub, Nat.reduceAdd, decide_true, decide_false, List.length_cons, List.length_nil, Int.reduceLT, Int.reduceLE, Int.reduceAdd, Int.reduceMul, Int.reduceSub, Int.reduceNeg, Int.reduceToNat, Int.reducePow, Int.reduceMod, Int.reduceDiv, Int.reduceEq, Nat.reducePow, Nat.reduceMul, Nat.reduceLT, Nat.reduceLeDiff, Int.ofNat_zero, Int.natCast_zero, Int.natCast_one, Int.ofNat_eq_natCast, Int.natCast_nonneg, beq_self_eq_true, Option.isNone_none, Option.isNone_some, Bool.not_eq_true, List.append_nil, Option.bind_some, List.lookup_cons, List.contains_nil, List.contains_cons, g]
      by_cases c : (decide (s[p.1] ≠ some false) && !w[p.1]) = true
      · simp only [x02, x9h, xa1, xa0, x9y, x9z, x9x, x33, x30, x2y, x2z, x32, x31, x52, x50, x4z, x51, x4y, x4w, x4x, xbh, xbm, xbi, xbf, xbg, xbe, xbj, xbl, xbk, xba, xbd, xbb, xbc, x7b, x7c, x7a, x7e, x7d, x78, x79, xb5, xb9, xb6, xb8, xb7, x00, x01, x8j, x8c, x18, x19, x1a, xb3, xb4, x0j, x0g, x0i, x0h, x8d, x8e, x8g, x8f, x82, x83, x84, xat, xar, xas, xal, xak, xap, xao, xan, xam, xeh, x07, x03, x04, x05, x06, x08, x09, x6j, x6c, x6d, x6e, x6f, x6g, x6h, x6i, x2q, x2p, x2r, x2s, xav, xaq, x77, x76, x3m, x3l, xa3, xa4, xab, xac, xad, xae, xaf, xag, xah, xai, xa5, xa6, xa7, xa8, xa9, xaa, xaj, x89, x8a, x8h, x8i, x9m, x9n, x9o, x9p, x9q, x9r, x9s, x6x, x6v, x6w, x20, x1v, x1w, x1y, x1x, x1z, x4v, x4t, x4u, x4q, x4r, x4s, x5b, x1b, x1i, x1h, x1g, x1d, x74, x75, x73, x6z, x6y, x72, x70, x71, x9e, x5k, x5l, x5m, x5n, x8x, x8y, x8z, x90, x91, x92, x93, x2v, x2t, x2u, xei, xej, xek, xel, x8w, x98, x99, xb1, xb2, xb0, xaz, x81, x80, x87, x88, x85, x86, xd1, xd0, x8t, x8s, x6r, x6n, x6p, x6o, x8b, x6k, x6l, x6m, x7z, x1c, x2b, x8v, x9f, x9v, x9w, x9u, x9t, x59, x5a, x8u, x97, x35, x34, x0o, x0a, x0b, x0d, x0c, x0e, x0p, x0q, x0r, x12, x0z, x10, x11, x5o, x5g, x9g, x9a, x9b, x9c, x9d, x0n, x0l, x0m, x36, xef, xeg, x4p, x4o, xax, xay, x53, x55, x54, xaw, xau, x3f, x3e, x3d, x3g, x8p, x8o, x8q, x8r, x7r, x7p, x7q, x7o, x7m, x7k, x7l, x7n, x7i, x7h, x7f, x7g, x14, x16, x17, x15, x13, x1f, x1e, x5j, x5h, x5i, x57, x58, x56, x27, x2a, x29, x28, x9k, x9j, x9l, x9i, x1j, x21, x22, x23, x26, x25, x24, x7v, x7w, x3n, x3h, x3i, x7j, x7s, x7t, x7u, x96, x95, x94, x5e, x5f, x5c, x3p, x3q, x3r, x3s, x3t, x3u, x3v, x3w, x3x, x4a, x4l, x49, x4b, x4c, x3j, x2o, x2j, x2d, x2i, x2m, x2n, x2c, x2h, x2g, x2f, x2e, x2k, x6s, x6u, x6t, x2x, x7y, x2w, x7x, x5u, x5r, x5q, x5v, x5s, x5p, x5t, x6a, x67, x66, x6b, x68, x65, x69, x5z, x5x, x5y, x5w, x60, x64, x63, x61, x62, xbn, xd2, xbt, xd8, xbo, xd3, xbr, xd6, xbp, xd4, xbq, xd5, xbs, xd7, xct, xe8, xcz, xee, xcu, xe9, xcx, xec, xcv, xea, xcw, xeb, xcy, xed, xbu, xd9, xc0, xdf, xbv, xda, xby, xdd, xbw, xdb, xbx, xdc, xbz, xde, xcf, xdu, xcl, xe0, xcg, xdv, xcj, xdy, xch, xdw, xci, xdx, xck, xdz, xc1, xdg, xc7, xdm, xc2, xdh, xc5, xdk, xc3, xdi, xc4, xdj, xc6, xdl, xc8, xdn, xce, xdt, xc9, xdo, xcc, xdr, xca, xdp, xcb, xdq, xcd, xds, xcm, xe1, xcs, xe7, xcn, xe2, xcq, xe5, xco, xe3, xcp, xe4, xcr, xe6, x8k, x8l, x8m, x8n, x0s, x0t, x0u, x0v, x0w, x0x, x0y, x3y, x4n, x41, x4e, x44, x4j, x47, x4g, x4m, x40, x4d, x43, x4i, x46, x4h, x3z, x42, x4f, x45, x4k, x48, x37, x3c, x38, x39, x3a, x3b, x1n, x1o, x1p, x1q, x1r, x1s, x1t, x1u, x1k, x1l, x1m, List.getElem?_cons_zero, List.getElem?_cons_succ, List.set_cons_zero, List.set_cons_succ, List.replicate, List.cons_append, List.nil_append, List.take_succ_cons, List.take_zero, List.getD_cons_zero, List.getD_cons_succ, List.map_cons, List.map_nil, if_true, if_false, Bool.true_and, Bool.and_true, Bool.false_and, Bool.and_false, Bool.true_or, Bool.or_true, Bool.false_or, Bool.or_false, Bool.not_true, Bool.not_false, reduceIte, Bool.false_eq_true, eq_self, Nat.sub_self, sc, noL, noLAll, Option.map_some, Int.toNat_natCast, Nat.reduceSub, Nat.reduceAdd, decide_true, decide_false, List.length_cons, List.length_nil, Int.reduceLT, Int.reduceLE, Int.reduceAdd, Int.reduceMul, Int.reduceSub, Int.reduceNeg, Int.reduceToNat, Int.reducePow, Int.reduceMod, Int.reduceDiv, Int.reduceEq, Nat.reducePow, Nat.reduceMul, Nat.reduceLT, Nat.reduceLeDiff, Int.ofNat_zero, Int.natCast_zero, Int.natCast_one, Int.ofNat_eq_natCast, Int.natCast_nonneg, beq_self_eq_true, Option.isNone_none, Option.isNone_some, Bool.not_eq_true, List.append_nil, Option.bind_some, List.lookup_cons, List.contains_nil, List.contains_cons, c]
      · rw [Bool.not_eq_true] at c; simp only [x02, x9h, xa1, xa0, x9y, x9z, x9x, x33, x30, x2y, x2z, x32, x31, x52, x50, x4z, x51, x4y, x4w, x4x, xbh, xbm, xbi, xbf, xbg, xbe, xbj, xbl, xbk, xba, xbd, xbb, xbc, x7b, x7c, x7a, x7e, x7d, x78, x79, xb5, xb9, xb6, xb8, xb7, x00, x01, x8j, x8c, x18, x19, x1a, xb3, xb4, x0j, x0g, x0i, x0h, x8d, x8e, x8g, x8f, x82, x83, x84, xat, xar, xas, xal, xak, xap, xao, xan, xam, xeh, x07, x03, x04, x05, x06, x08, x09, x6j, x6c, x6d, x6e, x6f, x6g, x6h, x6i, x2q, x2p, x2r, x2s, xav, xaq, x77, x76, x3m, x3l, xa3, xa4, xab, xac, xad, xae, xaf, xag, xah, xai, xa5, xa6, xa7, xa8, xa9, xaa, xaj, x89, x8a, x8h, x8i, x9m, x9n, x9o, x9p, x9q, x9r, x9s, x6x, x6v, x6w, x20, x1v, x1w, x1y, x1x, x1z, x4v, x4t, x4u, x4q, x4r, x4s, x5b, x1b, x1i, x1h, x1g, x1d, x74, x75, x73, x6z, x6y, x72, x70, x71, x9e, x5k, x5l, x5m, x5n, x8x, x8y, x8z, x90, x91, x92, x93, x2v, x2t, x2u, xei, xej, xek, xel, x8w, x98, x99, xb1, xb2, xb0, xaz, x81, x80, x87, x88, x85, x86, xd1, xd0, x8t, x8s, x6r, x6n, x6p, x6o, x8b, x6k, x6l, x6m, x7z, x1c, x2b, x8v, x9f, x9v, x9w, x9u, x9t, x59, x5a, x8u, x97, x35, x34, x0o, x0a, x0b, x0d, x0c, x0e, x0p, x0q, x0r, x12, x0z, x10, x11, x5o, x5g, x9g, x9a, x9b, x9c, x9d, x0n, x0l, x0m, x36, xef, xeg, x4p, x4o, xax, xay, x53, x55, x54, xaw, xau, x3f, x3e, x3d, x3g, x8p, x8o, x8q, x8r, x7r, x7p, x7q, x7o, x7m, x7k, x7l, x7n, x7i, x7h, x7f, x7g, x14, x16, x17, x15, x13, x1f, x1e, x5j, x5h, x5i, x57, x58, x56, x27, x2a, x29, x28, x9k, x9j, x9l, x9i, x1j, x21, x22, x23, x26, x25, x24, x7v, x7w, x3n, x3h, x3i, x7j, x7s, x7t, x7u, x96, x95, x94, x5e, x5f, x5c, x3p, x3q, x3r, x3s, x3t, x3u, x3v, x3w, x3x, x4a, x4l, x49, x4b, x4c, x3j, x2o, x2j, x2d, x2i, x2m, x2n, x2c, x2h, x2g, x2f, x2e, x2k, x6s, x6u, x6t, x2x, x7y, x2w, x7x, x5u, x5r, x5q, x5v, x5s, x5p, x5t, x6a, x67, x66, x6b, x68, x65, x69, x5z, x5x, x5y, x5w, x60, x64, x63, x61, x62, xbn, xd2, xbt, xd8, xbo, xd3, xbr, xd6, xbp, xd4, xbq, xd5, xbs, xd7, xct, xe8, xcz, xee, xcu, xe9, xcx, xec, xcv, xea, xcw, xeb, xcy, xed, xbu, xd9, xc0, xdf, xbv, xda, xby, xdd, xbw, xdb, xbx, xdc, xbz, xde, xcf, xdu, xcl, xe0, xcg, xdv, xcj, xdy, xch, xdw, xci, xdx, xck, xdz, xc1, xdg, xc7, xdm, xc2, xdh, xc5, xdk, xc3, xdi, xc4, xdj, xc6, xdl, xc8, xdn, xce, xdt, xc9, xdo, xcc, xdr, xca, xdp, xcb, xdq, xcd, xds, xcm, xe1, xcs, xe7, xcn, xe2, xcq, xe5, xco, xe3, xcp, xe4, xcr, xe6, x8k, x8l, x8m, x8n, x0s, x0t, x0u, x0v, x0w, x0x, x0y, x3y, x4n, x41, x4e, x44, x4j, x47, x4g, x4m, x40, x4d, x43, x4i, x46, x4h, x3z, x42, x4f, x45, x4k, x48, x37, x3c, x38, x39, x3a, x3b, x1n, x1o, x1p, x1q, x1r, x1s, x1t, x1u, x1k, x1l, x1m, List.getElem?_cons_zero, List.getElem?_cons_succ, List.set_cons_zero, List.set_cons_succ, List.replicate, List.cons_append, List.nil_append, List.take_succ_cons, List.take_zero, List.getD_cons_zero, List.getD_cons_succ, List.map_cons, List.map_nil, if_true, if_false, Bool.true_and, Bool.and_true, Bool.false_and, Bool.and_false, Bool.true_or, Bool.or_true, Bool.false_or, Bool.or_false, Bool.not_true, Bool.not_false, reduceIte, Bool.false_eq_true, eq_self, Nat.sub_self, sc, noL, noLAll, Option.map_some, Int.toNat_natCast, Nat.reduceSub, Nat.reduceAdd, decide_true, decide_false, List.length_cons, List.length_nil, Int.reduceLT, Int.reduceLE, Int.reduceAdd, Int.reduceMul, Int.reduceSub, Int.reduceNeg, Int.reduceToNat, Int.reducePow, Int.reduceMod, Int.reduceDiv, Int.reduceEq, Nat.reducePow, Nat.reduceMul, Nat.reduceLT, Nat.reduceLeDiff, Int.ofNat_zero, Int.natCast_zero, Int.natCast_one, Int.ofNat_eq_natCast, Int.natCast_nonneg, beq_self_eq_true, Option.isNone_none, Option.isNone_some, Bool.not_eq_true, List.append_nil, Option.bind_some, List.lookup_cons, List.contains_nil, List.contains_cons, c])]
    simp only [x02, x9h, xa1, xa0, x9y, x9z, x9x, x33, x30, x2y, x2z, x32, x31, x52, x50, x4z, x51, x4y, x4w, x4x, xbh, xbm, xbi, xbf, xbg, xbe, xbj, xbl, xbk, xba, xbd, xbb, xbc, x7b, x7c, x7a, x7e, x7d, x78, x79, xb5, xb9, xb6, xb8, xb7, x00, x01, x8j, x8c, x18, x19, x1a, xb3, xb4, x0j, x0g, x0i, x0h, x8d, x8e, x8g, x8f, x82, x83, x84, xat, xar, xas, xal, xak, xap, xao, xan, xam, xeh, x07, x03, x04, x05, x06, x08, x09, x6j, x6c, x6d, x6e, x6f, x6g, x6h, x6i, x2q, x2p, x2r, x2s, xav, xaq, x77, x76, x3m, x3l, xa3, xa4, xab, xac, xad, xae, xaf, xag, xah, xai, xa5, xa6, xa7, xa8, xa9, xaa, xaj, x89, x8a, x8h, x8i, x9m, x9n, x9o, x9p, x9q, x9r, x9s, x6x, x6v, x6w, x20, x1v, x1w, x1y, x1x, x1z, x4v, x4t, x4u, x4q, x4r, x4s, x5b, x1b, x1i, x1h, x1g, x1d, x74, x75, x73, x6z, x6y, x72, x70, x71, x9e, x5k, x5l, x5m, x5n, x8x, x8y, x8z, x90, x91, x92, x93, x2v, x2t, x2u, xei, xej, xek, xel, x8w, x98, x99, xb1, xb2, xb0, xaz, x81, x80, x87, x88, x85, x86, xd1, xd0, x8t, x8s, x6r, x6n, x6p, x6o, x8b, x6k, x6l, x6m, x7z, x1c, x2b, x8v, x9f, x9v, x9w, x9u, x9t, x59, x5a, x8u, x97, x35, x34, x0o, x0a, x0b, x0d, x0c, x0e, x0p, x0q, x0r, x12, x0z, x10, x11, x5o, x5g, x9g, x9a, x9b, x9c, x9d, x0n, x0l, x0m, x36, xef, xeg, x4p, x4o, xax, xay, x53, x55, x54, xaw, xau, x3f, x3e, x3d, x3g, x8p, x8o, x8q, x8r, x7r, x7p, x7q, x7o, x7m, x7k, x7l, x7n, x7i, x7h, x7f, x7g, x14, x16, x17, x15, x13, x1f, x1e, x5j, x5h, x5i, x57, x58, x56, x27, x2a, x29, x28, x9k, x9j, x9l, x9i, x1j, x21, x22, x23, x26, x25, x24, x7v, x7w, x3n, x3h, x3i, x7j, x7s, x7t, x7u, x96, x95, x94, x5e, x5f, x5c, x3p, x3q, x3r, x3s, x3t, x3u, x3v, x3w, x3x, x4a, x4l, x49, x4b, x4c, x3j, x2o, x2j, x2d, x2i, x2m, x2n, x2c, x2h, x2g, x2f, x2e, x2k, x6s, x6u, x6t, x2x, x7y, x2w, x7x, x5u, x5r, x5q, x5v, x5s, x5p, x5t, x6a, x67, x66, x6b, x68, x65, x69, x5z, x5x, x5y, x5w, x60, x64, x63, x61, x62, xbn, xd2, xbt, xd8, xbo, xd3, xbr, xd6, xbp, xd4, xbq, xd5, xbs, xd7, xct, xe8, xcz, xee, xcu, xe9, xcx, xec, xcv, xea, xcw, xeb, xcy, xed, xbu, xd9, xc0, xdf, xbv, xda, xby, xdd, xbw, xdb, xbx, xdc, xbz, xde, xcf, xdu, xcl, xe0, xcg, xdv, xcj, xdy, xch, xdw, xci, xdx, xck, xdz, xc1, xdg, xc7, xdm, xc2, xdh, xc5, xdk, xc3, xdi, xc4, xdj, xc6, xdl, xc8, xdn, xce, xdt, xc9, xdo, xcc, xdr, xca, xdp, xcb, xdq, xcd, xds, xcm, xe1, xcs, xe7, xcn, xe2, xcq, xe5, xco, xe3, xcp, xe4, xcr, xe6, x8k, x8l, x8m, x8n, x0s, x0t, x0u, x0v, x0w, x0x, x0y, x3y, x4n, x41, x4e, x44, x4j, x47, x4g, x4m, x40, x4d, x43, x4i, x46, x4h, x3z, x42, x4f, x45, x4k, x48, x37, x3c, x38, x39, x3a, x3b, x1n, x1o, x1p, x1q, x1r, x1s, x1t, x1u, x1k, x1l, x1m, List.getElem?_cons_zero, List.getElem?_cons_succ, List.set_cons_zero, List.set_cons_succ, List.replicate, List.cons_append, List.nil_append, List.take_succ_cons, List.take_zero, List.getD_cons_zero, List.getD_cons_succ, List.map_cons, List.map_nil, if_true, if_false, Bool.true_and, Bool.and_true, Bool.false_and, Bool.and_false, Bool.true_or, Bool.or_true, Bool.false_or, Bool.or_false, Bool.not_true, Bool.not_false, reduceIte, Bool.false_eq_true, eq_self, Nat.sub_self, sc, noL, noLAll, Option.map_some, Int.toNat_natCast, Nat.reduceSub, Nat.reduceAdd, decide_true, decide_false, List.length_cons, List.length_nil, Int.reduceLT, Int.reduceLE, Int.reduceAdd, Int.reduceMul, Int.reduceSub, Int.reduceNeg, Int.reduceToNat, Int.reducePow, Int.reduceMod, Int.reduceDiv, Int.reduceEq, Nat.reducePow, Nat.reduceMul, Nat.reduceLT, Nat.reduceLeDiff, Int.ofNat_zero, Int.natCast_zero, Int.natCast_one, Int.ofNat_eq_natCast, Int.natCast_nonneg, beq_self_eq_true, Option.isNone_none, Option.isNone_some, Bool.not_eq_true, List.append_nil, Option.bind_some, List.lookup_cons, List.contains_nil, List.contains_cons, map_snd]
    rw [worth_map its _ (leftOf s w) (fun p hq => rfl)]
    simp only [x02, x9h, xa1, xa0, x9y, x9z, x9x, x33, x30, x2y, x2z, x32, x31, x52, x50, x4z, x51, x4y, x4w, x4x, xbh, xbm, xbi, xbf, xbg, xbe, xbj, xbl, xbk, xba, xbd, xbb, xbc, x7b, x7c, x7a, x7e, x7d, x78, x79, xb5, xb9, xb6, xb8, xb7, x00, x01, x8j, x8c, x18, x19, x1a, xb3, xb4, x0j, x0g, x0i, x0h, x8d, x8e, x8g, x8f, x82, x83, x84, xat, xar, xas, xal, xak, xap, xao, xan, xam, xeh, x07, x03, x04, x05, x06, x08, x09, x6j, x6c, x6d, x6e, x6f, x6g, x6h, x6i, x2q, x2p, x2r, x2s, xav, xaq, x77, x76, x3m, x3l, xa3, xa4, xab, xac, xad, xae, xaf, xag, xah, xai, xa5, xa6, xa7, xa8, xa9, xaa, xaj, x89, x8a, x8h, x8i, x9m, x9n, x9o, x9p, x9q, x9r, x9s, x6x, x6v, x6w, x20, x1v, x1w, x1y, x1x, x1z, x4v, x4t, x4u, x4q, x4r, x4s, x5b, x1b, x1i, x1h, x1g, x1d, x74, x75, x73, x6z, x6y, x72, x70, x71, x9e, x5k, x5l, x5m, x5n, x8x, x8y, x8z, x90, x91, x92, x93, x2v, x2t, x2u, xei, xej, xek, xel, x8w, x98, x99, xb1, xb2, xb0, xaz, x81, x80, x87, x88, x85, x86, xd1, xd0, x8t, x8s, x6r, x6n, x6p, x6o, x8b, x6k, x6l, x6m, x7z, x1c, x2b, x8v, x9f, x9v, x9w, x9u, x9t, x59, x5a, x8u, x97, x35, x34, x0o, x0a, x0b, x0d, x0c, x0e, x0p, x0q, x0r, x12, x0z, x10, x11, x5o, x5g, x9g, x9a, x9b, x9c, x9d, x0n, x0l, x0m, x36, xef, xeg, x4p, x4o, xax, xay, x53, x55, x54, xaw, xau, x3f, x3e, x3d, x3g, x8p, x8o, x8q, x8r, x7r, x7p, x7q, x7o, x7m, x7k, x7l, x7n, x7i, x7h, x7f, x7g, x14, x16, x17, x15, x13, x1f, x1e, x5j, x5h, x5i, x57, x58, x56, x27, x2a, x29, x28, x9k, x9j, x9l, x9i, x1j, x21, x22, x23, x26, x25, x24, x7v, x7w, x3n, x3h, x3i, x7j, x7s, x7t, x7u, x96, x95, x94, x5e, x5f, x5c, x3p, x3q, x3r, x3s, x3t, x3u, x3v, x3w, x3x, x4a, x4l, x49, x4b, x4c, x3j, x2o, x2j, x2d, x2i, x2m, x2n, x2c, x2h, x2g, x2f, x2e, x2k, x6s, x6u, x6t, x2x, x7y, x2w, x7x, x5u, x5r, x5q, x5v, x5s, x5p, x5t, x6a, x67, x66, x6b, x68, x65, x69, x5z, x5x, x5y, x5w, x60, x64, x63, x61, x62, xbn, xd2, xbt, xd8, xbo, xd3, xbr, xd6, xbp, xd4, xbq, xd5, xbs, xd7, xct, xe8, xcz, xee, xcu, xe9, xcx, xec, xcv, xea, xcw, xeb, xcy, xed, xbu, xd9, xc0, xdf, xbv, xda, xby, xdd, xbw, xdb, xbx, xdc, xbz, xde, xcf, xdu, xcl, xe0, xcg, xdv, xcj, xdy, xch, xdw, xci, xdx, xck, xdz, xc1, xdg, xc7, xdm, xc2, xdh, xc5, xdk, xc3, xdi, xc4, xdj, xc6, xdl, xc8, xdn, xce, xdt, xc9, xdo, xcc, xdr, xca, xdp, xcb, xdq, xcd, xds, xcm, xe1, xcs, xe7, xcn, xe2, xcq, xe5, xco, xe3, xcp, xe4, xcr, xe6, x8k, x8l, x8m, x8n, x0s, x0t, x0u, x0v, x0w, x0x, x0y, x3y, x4n, x41, x4e, x44, x4j, x47, x4g, x4m, x40, x4d, x43, x4i, x46, x4h, x3z, x42, x4f, x45, x4k, x48, x37, x3c, x38, x39, x3a, x3b, x1n, x1o, x1p, x1q, x1r, x1s, x1t, x1u, x1k, x1l, x1m, List.getElem?_cons_zero, List.getElem?_cons_succ, List.set_cons_zero, List.set_cons_succ, List.replicate, List.cons_append, List.nil_append, List.take_succ_cons, List.take_zero, List.getD_cons_zero, List.getD_cons_succ, List.map_cons, List.map_nil, if_true, if_false, Bool.true_and, Bool.and_true, Bool.false_and, Bool.and_false, Bool.true_or, Bool.or_true, Bool.false_or, Bool.or_false, Bool.not_true, Bool.not_false, reduceIte, Bool.false_eq_true, eq_self, Nat.sub_self, sc, noL, noLAll, Option.map_some, Int.toNat_natCast, Nat.reduceSub, Nat.reduceAdd, decide_true, decide_false, List.length_cons, List.length_nil, Int.reduceLT, Int.reduceLE, Int.reduceAdd, Int.reduceMul, Int.reduceSub, Int.reduceNeg, Int.reduceToNat, Int.reducePow, Int.reduceMod, Int.reduceDiv, Int.reduceEq, Nat.reducePow, Nat.reduceMul, Nat.reduceLT, Nat.reduceLeDiff, Int.ofNat_zero, Int.natCast_zero, Int.natCast_one, Int.ofNat_eq_natCast, Int.natCast_nonneg, beq_self_eq_true, Option.isNone_none, Option.isNone_some, Bool.not_eq_true, List.append_nil, Option.bind_some, List.lookup_cons, List.contains_nil, List.contains_cons, xa2]
    rfl
  | most k its =>
    have hp := its_lt' h
    unfold dPart Part.lost
    simp only [x02, x9h, xa1, xa0, x9y, x9z, x9x, x33, x30, x2y, x2z, x32, x31, x52, x50, x4z, x51, x4y, x4w, x4x, xbh, xbm, xbi, xbf, xbg, xbe, xbj, xbl, xbk, xba, xbd, xbb, xbc, x7b, x7c, x7a, x7e, x7d, x78, x79, xb5, xb9, xb6, xb8, xb7, x00, x01, x8j, x8c, x18, x19, x1a, xb3, xb4, x0j, x0g, x0i, x0h, x8d, x8e, x8g, x8f, x82, x83, x84, xat, xar, xas, xal, xak, xap, xao, xan, xam, xeh, x07, x03, x04, x05, x06, x08, x09, x6j, x6c, x6d, x6e, x6f, x6g, x6h, x6i, x2q, x2p, x2r, x2s, xav, xaq, x77, x76, x3m, x3l, xa3, xa4, xab, xac, xad, xae, xaf, xag, xah, xai, xa5, xa6, xa7, xa8, xa9, xaa, xaj, x89, x8a, x8h, x8i, x9m, x9n, x9o, x9p, x9q, x9r, x9s, x6x, x6v, x6w, x20, x1v, x1w, x1y, x1x, x1z, x4v, x4t, x4u, x4q, x4r, x4s, x5b, x1b, x1i, x1h, x1g, x1d, x74, x75, x73, x6z, x6y, x72, x70, x71, x9e, x5k, x5l, x5m, x5n, x8x, x8y, x8z, x90, x91, x92, x93, x2v, x2t, x2u, xei, xej, xek, xel, x8w, x98, x99, xb1, xb2, xb0, xaz, x81, x80, x87, x88, x85, x86, xd1, xd0, x8t, x8s, x6r, x6n, x6p, x6o, x8b, x6k, x6l, x6m, x7z, x1c, x2b, x8v, x9f, x9v, x9w, x9u, x9t, x59, x5a, x8u, x97, x35, x34, x0o, x0a, x0b, x0d, x0c, x0e, x0p, x0q, x0r, x12, x0z, x10, x11, x5o, x5g, x9g, x9a, x9b, x9c, x9d, x0n, x0l, x0m, x36, xef, xeg, x4p, x4o, xax, xay, x53, x55, x54, xaw, xau, x3f, x3e, x3d, x3g, x8p, x8o, x8q, x8r, x7r, x7p, x7q, x7o, x7m, x7k, x7l, x7n, x7i, x7h, x7f, x7g, x14, x16, x17, x15, x13, x1f, x1e, x5j, x5h, x5i, x57, x58, x56, x27, x2a, x29, x28, x9k, x9j, x9l, x9i, x1j, x21, x22, x23, x26, x25, x24, x7v, x7w, x3n, x3h, x3i, x7j, x7s, x7t, x7u, x96, x95, x94, x5e, x5f, x5c, x3p, x3q, x3r, x3s, x3t, x3u, x3v, x3w, x3x, x4a, x4l, x49, x4b, x4c, x3j, x2o, x2j, x2d, x2i, x2m, x2n, x2c, x2h, x2g, x2f, x2e, x2k, x6s, x6u, x6t, x2x, x7y, x2w, x7x, x5u, x5r, x5q, x5v, x5s, x5p, x5t, x6a, x67, x66, x6b, x68, x65, x69, x5z, x5x, x5y, x5w, x60, x64, x63, x61, x62, xbn, xd2, xbt, xd8, xbo, xd3, xbr, xd6, xbp, xd4, xbq, xd5, xbs, xd7, xct, xe8, xcz, xee, xcu, xe9, xcx, xec, xcv, xea, xcw, xeb, xcy, xed, xbu, xd9, xc0, xdf, xbv, xda, xby, xdd, xbw, xdb, xbx, xdc, xbz, xde, xcf, xdu, xcl, xe0, xcg, xdv, xcj, xdy, xch, xdw, xci, xdx, xck, xdz, xc1, xdg, xc7, xdm, xc2, xdh, xc5, xdk, xc3, xdi, xc4, xdj, xc6, xdl, xc8, xdn, xce, xdt, xc9, xdo, xcc, xdr, xca, xdp, xcb, xdq, xcd, xds, xcm, xe1, xcs, xe7, xcn, xe2, xcq, xe5, xco, xe3, xcp, xe4, xcr, xe6, x8k, x8l, x8m, x8n, x0s, x0t, x0u, x0v, x0w, x0x, x0y, x3y, x4n, x41, x4e, x44, x4j, x47, x4g, x4m, x40, x4d, x43, x4i, x46, x4h, x3z, x42, x4f, x45, x4k, x48, x37, x3c, x38, x39, x3a, x3b, x1n, x1o, x1p, x1q, x1r, x1s, x1t, x1u, x1k, x1l, x1m, List.getElem?_cons_zero, List.getElem?_cons_succ, List.set_cons_zero, List.set_cons_succ, List.replicate, List.cons_append, List.nil_append, List.take_succ_cons, List.take_zero, List.getD_cons_zero, List.getD_cons_succ, List.map_cons, List.map_nil, if_true, if_false, Bool.true_and, Bool.and_true, Bool.false_and, Bool.and_false, Bool.true_or, Bool.or_true, Bool.false_or, Bool.or_false, Bool.not_true, Bool.not_false, reduceIte, Bool.false_eq_true, eq_self, Nat.sub_self, sc, noL, noLAll, Option.map_some, Int.toNat_natCast, Nat.reduceSub, Nat.reduceAdd, decide_true, decide_false, List.length_cons, List.length_nil, Int.reduceLT, Int.reduceLE, Int.reduceAdd, Int.reduceMul, Int.reduceSub, Int.reduceNeg, Int.reduceToNat, Int.reducePow, Int.reduceMod, Int.reduceDiv, Int.reduceEq, Nat.reducePow, Nat.reduceMul, Nat.reduceLT, Nat.reduceLeDiff, Int.ofNat_zero, Int.natCast_zero, Int.natCast_one, Int.ofNat_eq_natCast, Int.natCast_nonneg, beq_self_eq_true, Option.isNone_none, Option.isNone_some, Bool.not_eq_true, List.append_nil, Option.bind_some, List.lookup_cons, List.contains_nil, List.contains_cons]
    rw [lcLoop_filter (b := false) (p := fun p : Nat × Int => decide (s.getD p.1 none = some true)) (g := fun p => .int p.2) (h := fun p hp => by
      have hp' := its_lt' h p hp
      rw [getD_ob _ _ hp']
      show lcOne _ _ _ _ _ (dItem p) _ = _
      unfold dItem
      simp only [x02, x9h, xa1, xa0, x9y, x9z, x9x, x33, x30, x2y, x2z, x32, x31, x52, x50, x4z, x51, x4y, x4w, x4x, xbh, xbm, xbi, xbf, xbg, xbe, xbj, xbl, xbk, xba, xbd, xbb, xbc, x7b, x7c, x7a, x7e, x7d, x78, x79, xb5, xb9, xb6, xb8, xb7, x00, x01, x8j, x8c, x18, x19, x1a, xb3, xb4, x0j, x0g, x0i, x0h, x8d, x8e, x8g, x8f, x82, x83, x84, xat, xar, xas, xal, xak, xap, xao, xan, xam, xeh, x07, x03, x04, x05, x06, x08, x09, x6j, x6c, x6d, x6e, x6f, x6g, x6h, x6i, x2q, x2p, x2r, x2s, xav, xaq, x77, x76, x3m, x3l, xa3, xa4, xab, xac, xad, xae, xaf, xag, xah, xai, xa5, xa6, xa7, xa8, xa9, xaa, xaj, x89, x8a, x8h, x8i, x9m, x9n, x9o, x9p, x9q, x9r, x9s, x6x, x6v, x6w, x20, x1v, x1w, x1y, x1x, x1z, x4v, x4t, x4u, x4q, x4r, x4s, x5b, x1b, x1i, x1h, x1g, x1d, x74, x75, x73, x6z, x6y, x72, x70, x71, x9e, x5k, x5l, x5m, x5n, x8x, x8y, x8z, x90, x91, x92, x93, x2v, x2t, x2u, xei, xej, xek, xel, x8w, x98, x99, xb1, xb2, xb0, xaz, x81, x80, x87, x88, x85, x86, xd1, xd0, x8t, x8s, x6r, x6n, x6p, x6o, x8b, x6k, x6l, x6m, x7z, x1c, x2b, x8v, x9f, x9v, x9w, x9u, x9t, x59, x5a, x8u, x97, x35, x34, x0o, x0a, x0b, x0d, x0c, x0e, x0p, x0q, x0r, x12, x0z, x10, x11, x5o, x5g, x9g, x9a, x9b, x9c, x9d, x0n, x0l, x0m, x36, xef, xeg, x4p, x4o, xax, xay, x53, x55, x54, xaw, xau, x3f, x3e, x3d, x3g, x8p, x8o, x8q, x8r, x7r, x7p, x7q, x7o, x7m, x7k, x7l, x7n, x7i, x7h, x7f, x7g, x14, x16, x17, x15, x13, x1f, x1e, x5j, x5h, x5i, x57, x58, x56, x27, x2a, x29, x28, x9k, x9j, x9l, x9i, x1j, x21, x22, x23, x26, x25, x24, x7v, x7w, x3n, x3h, x3i, x7j, x7s, x7t, x7u, x96, x95, x94, x5e, x5f, x5c, x3p, x3q, x3r, x3s, x3t, x3u, x3v, x3w, x3x, x4a, x4l, x49, x4b, x4c, x3j, x2o, x2j, x2d, x2i, x2m, x2n, x2c, x2h, x2g, x2f, x2e, x2k, x6s, x6u, x6t, x2x, x7y, x2w, x7x, x5u, x5r, x5q, x5v, x5s, x5p, x5t, x6a, x67, x66, x6b, x68, x65, x69, x5z, x5x, x5y, x5w, x60, x64, x63, x61, x62, xbn, xd2, xbt, xd8, xbo, xd3, xbr, xd6, xbp, xd4, xbq, xd5, xbs, xd7, xct, xe8, xcz, xee, xcu, xe9, xcx, xec, xcv, xea, xcw, xeb, xcy, xed, xbu, xd9, xc0, xdf, xbv, xda, xby, xdd, xbw, xdb, xbx, xdc, xbz, xde, xcf, xdu, xcl, xe0, xcg, xdv, xcj, xdy, xch, xdw, xci, xdx, xck, xdz, xc1, xdg, xc7, xdm, xc2, xdh, xc5, xdk, xc3, xdi, xc4, xdj, xc6, xdl, xc8, xdn, xce, xdt, xc9, xdo, xcc, xdr, xca, xdp, xcb, xdq, xcd, xds, xcm, xe1, xcs, xe7, xcn, xe2, xcq, xe5, xco, xe3, xcp, xe4, xcr, xe6, x8k, x8l, x8m, x8n, x0s, x0t, x0u, x0v, x0w, x0x, x0y, x3y, x4n, x41, x4e, x44, x4j, x47, x4g, x4m, x40, x4d, x43, x4i, x46, x4h, x3z, x42, x4f, x45, x4k, x48, x37, x3c, x38, x39, x3a, x3b, x1n, x1o, x1p, x1q, x1r, x1s, x1t, x1u, x1k, x1l, x1m, List.getElem?_cons_zero, List.getElem?_cons_succ, List.set_cons_zero, List.set_cons_succ, List.replicate, List.cons_append, List.nil_append, List.take_succ_cons, List.take_zero, List.getD_cons_zero, List.getD_cons_succ, List.map_cons, List.map_nil, if_true, if_false, Bool.true_and, Bool.and_true, Bool.false_and, Bool.and_false, Bool.true_or, Bool.or_true, Bool.false_or, Bool.or_false, Bool.not_true, Bool.not_false, reduceIte, Bool.false_eq_true, eq_self, Nat.sub_self, sc, noL, noLAll, Option.map_some, Int.toNat_natCast, Nat.reduceSub, Nat.reduceAdd, decide_true, decide_false, List.length_cons, List.length_nil, Int.reduceLT, Int.reduceLE, Int.reduceAdd, Int.reduceMul, Int.reduceSub, Int.reduceNeg, Int.reduceToNat, Int.reducePow, Int.reduceMod, Int.reduceDiv, Int.reduceEq, Nat.reducePow, Nat.reduceMul, Nat.reduceLT, Nat.reduceLeDiff, Int.ofNat_zero, Int.natCast_zero, Int.natCast_one, Int.ofNat_eq_natCast, Int.natCast_nonneg, beq_self_eq_true, Option.isNone_none, Option.isNone_some, Bool.not_eq_true, List.append_nil, Option.bind_some, List.lookup_cons, List.contains_nil, List.contains_cons, atI_map _ _ _ hp', is_ob]
      by_cases c : s[p.1] = some true <;> simp only [x02, x9h, xa1, xa0, x9y, x9z, x9x, x33, x30, x2y, x2z, x32, x31, x52, x50, x4z, x51, x4y, x4w, x4x, xbh, xbm, xbi, xbf, xbg, xbe, xbj, xbl, xbk, xba, xbd, xbb, xbc, x7b, x7c, x7a, x7e, x7d, x78, x79, xb5, xb9, xb6, xb8, xb7, x00, x01, x8j, x8c, x18, x19, x1a, xb3, xb4, x0j, x0g, x0i, x0h, x8d, x8e, x8g, x8f, x82, x83, x84, xat, xar, xas, xal, xak, xap, xao, xan, xam, xeh, x07, x03, x04, x05, x06, x08, x09, x6j, x6c, x6d, x6e, x6f, x6g, x6h, x6i, x2q, x2p, x2r, x2s, xav, xaq, x77, x76, x3m, x3l, xa3, xa4, xab, xac, xad, xae, xaf, xag, xah, xai, xa5, xa6, xa7, xa8, xa9, xaa, xaj, x89, x8a, x8h, x8i, x9m, x9n, x9o, x9p, x9q, x9r, x9s, x6x, x6v, x6w, x20, x1v, x1w, x1y, x1x, x1z, x4v, x4t, x4u, x4q, x4r, x4s, x5b, x1b, x1i, x1h, x1g, x1d, x74, x75, x73, x6z, x6y, x72, x70, x71, x9e, x5k, x5l, x5m, x5n, x8x, x8y, x8z, x90, x91, x92, x93, x2v, x2t, x2u, xei, xej, xek, xel, x8w, x98, x99, xb1, xb2, xb0, xaz, x81, x80, x87, x88, x85, x86, xd1, xd0, x8t, x8s, x6r, x6n, x6p, x6o, x8b, x6k, x6l, x6m, x7z, x1c, x2b, x8v, x9f, x9v, x9w, x9u, x9t, x59, x5a, x8u, x97, x35, x34, x0o, x0a, x0b, x0d, x0c, x0e, x0p, x0q, x0r, x12, x0z, x10, x11, x5o, x5g, x9g, x9a, x9b, x9c, x9d, x0n, x0l, x0m, x36, xef, xeg, x4p, x4o, xax, xay, x53, x55, x54, xaw, xau, x3f, x3e, x3d, x3g, x8p, x8o, x8q, x8r, x7r, x7p, x7q, x7o, x7m, x7k, x7l, x7n, x7i, x7h, x7f, x7g, x14, x16, x17, x15, x13, x1f, x1e, x5j, x5h, x5i, x57, x58, x56, x27, x2a, x29, x28, x9k, x9j, x9l, x9i, x1j, x21, x22, x23, x26, x25, x24, x7v, x7w, x3n, x3h, x3i, x7j, x7s, x7t, x7u, x96, x95, x94, x5e, x5f, x5c, x3p, x3q, x3r, x3s, x3t, x3u, x3v, x3w, x3x, x4a, x4l, x49, x4b, x4c, x3j, x2o, x2j, x2d, x2i, x2m, x2n, x2c, x2h, x2g, x2f, x2e, x2k, x6s, x6u, x6t, x2x, x7y, x2w, x7x, x5u, x5r, x5q, x5v, x5s, x5p, x5t, x6a, x67, x66, x6b, x68, x65, x69, x5z, x5x, x5y, x5w, x60, x64, x63, x61, x62, xbn, xd2, xbt, xd8, xbo, xd3, xbr, xd6, xbp, xd4, xbq, xd5, xbs, xd7, xct, xe8, xcz, xee, xcu, xe9, xcx, xec, xcv, xea, xcw, xeb, xcy, xed, xbu, xd9, xc0, xdf, xbv, xda, xby, xdd, xbw, xdb, xbx, xdc, xbz, xde, xcf, xdu, xcl, xe0, xcg, xdv, xcj, xdy, xch, xdw, xci, xdx, xck, xdz, xc1, xdg, xc7, xdm, xc2, xdh, xc5, xdk, xc3, xdi, xc4, xdj, xc6, xdl, xc8, xdn, xce, xdt, xc9, xdo, xcc, xdr, xca, xdp, xcb, xdq, xcd, xds, xcm, xe1, xcs, xe7, xcn, xe2, xcq, xe5, xco, xe3, xcp, xe4, xcr, xe6, x8k, x8l, x8m, x8n, x0s, x0t, x0u, x0v, x0w, x0x, x0y, x3y, x4n, x41, x4e, x44, x4j, x47, x4g, x4m, x40, x4d, x43, x4i, x46, x4h, x3z, x42, x4f, x45, x4k, x48, x37, x3c, x38, x39, x3a, x3b, x1n, x1o, x1p, x1q, x1r, x1s, x1t, x1u, x1k, x1l, x1m, List.getElem?_cons_zero, List.getElem?_cons_succ, List.set_cons_zero, List.set_cons_succ, List.replicate, List.cons_append, List.nil_append, List.take_succ_cons, List.take_zero, List.getD_cons_zero, List.getD_cons_succ, List.map_cons, List.map_nil, if_true, if_false, Bool.true_and, Bool.and_true, Bool.false_and, Bool.and_false, Bool.true_or, Bool.or_true, Bool.false_or, Bool.or_false, Bool.not_true, Bool.not_false, reduceIte, Bool.false_eq_true, eq_self, Nat.sub_self, sc, noL, noLAll, Option.map_some, Int.toNat_natCast, Nat.reduceSub, Nat.reduceAdd, decide_true, decide_false, List.length_cons, List.length_nil, Int.reduceLT, Int.reduceLE, Int.reduceAdd, Int.reduceMul, Int.reduceSub, Int.reduceNeg, Int.reduceToNat, Int.reducePow, Int.reduceMod, Int.reduceDiv, Int.reduceEq, Nat.reducePow, Nat.reduceMul, Nat.reduceLT, Nat.reduceLeDiff, Int.ofNat_zero, Int.natCast_zero, Int.natCast_one, Int.ofNat_eq_natCast, Int.natCast_nonneg, beq_self_eq_true, Option.isNone_none, Option.isNone_some, Bool.not_eq_true, List.append_nil, Option.bind_some, List.lookup_cons, List.contains_nil, List.contains_cons, c])]
    simp only [x02, x9h, xa1, xa0, x9y, x9z, x9x, x33, x30, x2y, x2z, x32, x31, x52, x50, x4z, x51, x4y, x4w, x4x, xbh, xbm, xbi, xbf, xbg, xbe, xbj, xbl, xbk, xba, xbd, xbb, xbc, x7b, x7c, x7a, x7e, x7d, x78, x79, xb5, xb9, xb6, xb8, xb7, x00, x01, x8j, x8c, x18, x19, x1a, xb3, xb4, x0j, x0g, x0i, x0h, x8d, x8e, x8g, x8f, x82, x83, x84, xat, xar, xas, xal, xak, xap, xao, xan, xam, xeh, x07, x03, x04, x05, x06, x08, x09, x6j, x6c, x6d, x6e, x6f, x6g, x6h, x6i, x2q, x2p, x2r, x2s, xav, xaq, x77, x76, x3m, x3l, xa3, xa4, xab, xac, xad, xae, xaf, xag, xah, xai, xa5, xa6, xa7, xa8, xa9, xaa, xaj, x89, x8a, x8h, x8i, x9m, x9n, x9o, x9p, x9q, x9r, x9s, x6x, x6v, x6w, x20, x1v, x1w, x1y, x1x, x1z, x4v, x4t, x4u, x4q, x4r, x4s, x5b, x1b, x1i, x1h, x1g, x1d, x74, x75, x73, x6z, x6y, x72, x70, x71, x9e, x5k, x5l, x5m, x5n, x8x, x8y, x8z, x90, x91, x92, x93, x2v, x2t, x2u, xei, xej, xek, xel, x8w, x98, x99, xb1, xb2, xb0, xaz, x81, x80, x87, x88, x85, x86, xd1, xd0, x8t, x8s, x6r, x6n, x6p, x6o, x8b, x6k, x6l, x6m, x7z, x1c, x2b, x8v, x9f, x9v, x9w, x9u, x9t, x59, x5a, x8u, x97, x35, x34, x0o, x0a, x0b, x0d, x0c, x0e, x0p, x0q, x0r, x12, x0z, x10, x11, x5o, x5g, x9g, x9a, x9b, x9c, x9d, x0n, x0l, x0m, x36, xef, xeg, x4p, x4o, xax, xay, x53, x55, x54, xaw, xau, x3f, x3e, x3d, x3g, x8p, x8o, x8q, x8r, x7r, x7p, x7q, x7o, x7m, x7k, x7l, x7n, x7i, x7h, x7f, x7g, x14, x16, x17, x15, x13, x1f, x1e, x5j, x5h, x5i, x57, x58, x56, x27, x2a, x29, x28, x9k, x9j, x9l, x9i, x1j, x21, x22, x23, x26, x25, x24, x7v, x7w, x3n, x3h, x3i, x7j, x7s, x7t, x7u, x96, x95, x94, x5e, x5f, x5c, x3p, x3q, x3r, x3s, x3t, x3u, x3v, x3w, x3x, x4a, x4l, x49, x4b, x4c, x3j, x2o, x2j, x2d, x2i, x2m, x2n, x2c, x2h, x2g, x2f, x2e, x2k, x6s, x6u, x6t, x2x, x7y, x2w, x7x, x5u, x5r, x5q, x5v, x5s, x5p, x5t, x6a, x67, x66, x6b, x68, x65, x69, x5z, x5x, x5y, x5w, x60, x64, x63, x61, x62, xbn, xd2, xbt, xd8, xbo, xd3, xbr, xd6, xbp, xd4, xbq, xd5, xbs, xd7, xct, xe8, xcz, xee, xcu, xe9, xcx, xec, xcv, xea, xcw, xeb, xcy, xed, xbu, xd9, xc0, xdf, xbv, xda, xby, xdd, xbw, xdb, xbx, xdc, xbz, xde, xcf, xdu, xcl, xe0, xcg, xdv, xcj, xdy, xch, xdw, xci, xdx, xck, xdz, xc1, xdg, xc7, xdm, xc2, xdh, xc5, xdk, xc3, xdi, xc4, xdj, xc6, xdl, xc8, xdn, xce, xdt, xc9, xdo, xcc, xdr, xca, xdp, xcb, xdq, xcd, xds, xcm, xe1, xcs, xe7, xcn, xe2, xcq, xe5, xco, xe3, xcp, xe4, xcr, xe6, x8k, x8l, x8m, x8n, x0s, x0t, x0u, x0v, x0w, x0x, x0y, x3y, x4n, x41, x4e, x44, x4j, x47, x4g, x4m, x40, x4d, x43, x4i, x46, x4h, x3z, x42, x4f, x45, x4k, x48, x37, x3c, x38, x39, x3a, x3b, x1n, x1o, x1p, x1q, x1r, x1s, x1t, x1u, x1k, x1l, x1m, List.getElem?_cons_zero, List.getElem?_cons_succ, List.set_cons_zero, List.set_cons_succ, List.replicate, List.cons_append, List.nil_append, List.take_succ_cons, List.take_zero, List.getD_cons_zero, List.getD_cons_succ, List.map_cons, List.map_nil, if_true, if_false, Bool.true_and, Bool.and_true, Bool.false_and, Bool.and_false, Bool.true_or, Bool.or_true, Bool.false_or, Bool.or_false, Bool.not_true, Bool.not_false, reduceIte, Bool.false_eq_true, eq_self, Nat.sub_self, sc, noL, noLAll, Option.map_some, Int.toNat_natCast, Nat.reduceSub, Nat.reduceAdd, decide_true, decide_false, List.length_cons, List.length_nil, Int.reduceLT, Int.reduceLE, Int.reduceAdd, Int.reduceMul, Int.reduceSub, Int.reduceNeg, Int.reduceToNat, Int.reducePow, Int.reduceMod, Int.reduceDiv, Int.reduceEq, Nat.reducePow, Nat.reduceMul, Nat.reduceLT, Nat.reduceLeDiff, Int.ofNat_zero, Int.natCast_zero, Int.natCast_one, Int.ofNat_eq_natCast, Int.natCast_nonneg, beq_self_eq_true, Option.isNone_none, Option.isNone_some, Bool.not_eq_true, List.append_nil, Option.bind_some, List.lookup_cons, List.contains_nil, List.contains_cons, map_snd]
    rw [worth_map its _ (insOf s) (fun p hq => by rw [insOf_get _ _ (hp p hq), getD_ob _ _ (hp p hq)])]
    simp only [x02, x9h, xa1, xa0, x9y, x9z, x9x, x33, x30, x2y, x2z, x32, x31, x52, x50, x4z, x51, x4y, x4w, x4x, xbh, xbm, xbi, xbf, xbg, xbe, xbj, xbl, xbk, xba, xbd, xbb, xbc, x7b, x7c, x7a, x7e, x7d, x78, x79, xb5, xb9, xb6, xb8, xb7, x00, x01, x8j, x8c, x18, x19, x1a, xb3, xb4, x0j, x0g, x0i, x0h, x8d, x8e, x8g, x8f, x82, x83, x84, xat, xar, xas, xal, xak, xap, xao, xan, xam, xeh, x07, x03, x04, x05, x06, x08, x09, x6j, x6c, x6d, x6e, x6f, x6g, x6h, x6i, x2q, x2p, x2r, x2s, xav, xaq, x77, x76, x3m, x3l, xa3, xa4, xab, xac, xad, xae, xaf, xag, xah, xai, xa5, xa6, xa7, xa8, xa9, xaa, xaj, x89, x8a, x8h, x8i, x9m, x9n, x9o, x9p, x9q, x9r, x9s, x6x, x6v, x6w, x20, x1v, x1w, x1y, x1x, x1z, x4v, x4t, x4u, x4q, x4r, x4s, x5b, x1b, x1i, x1h, x1g, x1d, x74, x75, x73, x6z, x6y, x72, x70, x71, x9e, x5k, x5l, x5m, x5n, x8x, x8y, x8z, x90, x91, x92, x93, x2v, x2t, x2u, xei, xej, xek, xel, x8w, x98, x99, xb1, xb2, xb0, xaz, x81, x80, x87, x88, x85, x86, xd1, xd0, x8t, x8s, x6r, x6n, x6p, x6o, x8b, x6k, x6l, x6m, x7z, x1c, x2b, x8v, x9f, x9v, x9w, x9u, x9t, x59, x5a, x8u, x97, x35, x34, x0o, x0a, x0b, x0d, x0c, x0e, x0p, x0q, x0r, x12, x0z, x10, x11, x5o, x5g, x9g, x9a, x9b, x9c, x9d, x0n, x0l, x0m, x36, xef, xeg, x4p, x4o, xax, xay, x53, x55, x54, xaw, xau, x3f, x3e, x3d, x3g, x8p, x8o, x8q, x8r, x7r, x7p, x7q, x7o, x7m, x7k, x7l, x7n, x7i, x7h, x7f, x7g, x14, x16, x17, x15, x13, x1f, x1e, x5j, x5h, x5i, x57, x58, x56, x27, x2a, x29, x28, x9k, x9j, x9l, x9i, x1j, x21, x22, x23, x26, x25, x24, x7v, x7w, x3n, x3h, x3i, x7j, x7s, x7t, x7u, x96, x95, x94, x5e, x5f, x5c, x3p, x3q, x3r, x3s, x3t, x3u, x3v, x3w, x3x, x4a, x4l, x49, x4b, x4c, x3j, x2o, x2j, x2d, x2i, x2m, x2n, x2c, x2h, x2g, x2f, x2e, x2k, x6s, x6u, x6t, x2x, x7y, x2w, x7x, x5u, x5r, x5q, x5v, x5s, x5p, x5t, x6a, x67, x66, x6b, x68, x65, x69, x5z, x5x, x5y, x5w, x60, x64, x63, x61, x62, xbn, xd2, xbt, xd8, xbo, xd3, xbr, xd6, xbp, xd4, xbq, xd5, xbs, xd7, xct, xe8, xcz, xee, xcu, xe9, xcx, xec, xcv, xea, xcw, xeb, xcy, xed, xbu, xd9, xc0, xdf, xbv, xda, xby, xdd, xbw, xdb, xbx, xdc, xbz, xde, xcf, xdu, xcl, xe0, xcg, xdv, xcj, xdy, xch, xdw, xci, xdx, xck, xdz, xc1, xdg, xc7, xdm, xc2, xdh, xc5, xdk, xc3, xdi, xc4, xdj, xc6, xdl, xc8, xdn, xce, xdt, xc9, xdo, xcc, xdr, xca, xdp, xcb, xdq, xcd, xds, xcm, xe1, xcs, xe7, xcn, xe2, xcq, xe5, xco, xe3, xcp, xe4, xcr, xe6, x8k, x8l, x8m, x8n, x0s, x0t, x0u, x0v, x0w, x0x, x0y, x3y, x4n, x41, x4e, x44, x4j, x47, x4g, x4m, x40, x4d, x43, x4i, x46, x4h, x3z, x42, x4f, x45, x4k, x48, x37, x3c, x38, x39, x3a, x3b, x1n, x1o, x1p, x1q, x1r, x1s, x1t, x1u, x1k, x1l, x1m, List.getElem?_cons_zero, List.getElem?_cons_succ, List.set_cons_zero, List.set_cons_succ, List.replicate, List.cons_append, List.nil_append, List.take_succ_cons, List.take_zero, List.getD_cons_zero, List.getD_cons_succ, List.map_cons, List.map_nil, if_true, if_false, Bool.true_and, Bool.and_true, Bool.false_and, Bool.and_false, Bool.true_or, Bool.or_true, Bool.false_or, Bool.or_false, Bool.not_true, Bool.not_false, reduceIte, Bool.false_eq_true, eq_self, Nat.sub_self, sc, noL, noLAll, Option.map_some, Int.toNat_natCast, Nat.reduceSub, Nat.reduceAdd, decide_true, decide_false, List.length_cons, List.length_nil, Int.reduceLT, Int.reduceLE, Int.reduceAdd, Int.reduceMul, Int.reduceSub, Int.reduceNeg, Int.reduceToNat, Int.reducePow, Int.reduceMod, Int.reduceDiv, Int.reduceEq, Nat.reducePow, Nat.reduceMul, Nat.reduceLT, Nat.reduceLeDiff, Int.ofNat_zero, Int.natCast_zero, Int.natCast_one, Int.ofNat_eq_natCast, Int.natCast_nonneg, beq_self_eq_true, Option.isNone_none, Option.isNone_some, Bool.not_eq_true, List.append_nil, Option.bind_some, List.lookup_cons, List.contains_nil, List.contains_cons, xa2]
    rfl
theorem eq_sm (a b : Sheet) (c d : List Bool) : dEq (.list [dS a, dB c]) (.list [dS b, dB d]) = some (.bool (decide (a = b) && decide (c = d))) := by
  have h : ∀ (x : Sheet) (y : List Bool), SeqAt.shaped (.list [dS x, dB y]) = true := fun x y => by
    have h1 : SeqAt.shaped (dS x) = true := shp_en x (by simp [En.ok]) (by decide)
    have h2 : SeqAt.shaped (dB y) = true := shp_en y (by simp [En.ok]) (by decide)
    have d1 : PyData.depth (dS x) ≤ 1 := En.dp x
    have d2 : PyData.depth (dB y) ≤ 1 := En.dp y
    unfold SeqAt.shaped at h1 h2 ⊢
    rw [Bool.and_eq_true] at h1 h2 ⊢
    refine ⟨?_, ?_⟩
    · rw [PyData.canLay0, PyData.canLayAll0, PyData.canLayAll0, PyData.canLayAll0, h1.1, h2.1]; rfl
    · rw [decide_eq_true_iff, PyData.depth, PyData.depthAll, PyData.depthAll, PyData.depthAll]
      omega
  unfold dEq
  rw [if_pos ⟨h _ _, h _ _⟩, PyData.eqv, PyData.eqvAll, PyData.eqvAll, PyData.eqvAll]
  have e1 : PyData.eqv (dS a) (dS b) = decide (a = b) := En.eqv a b
  have e2 : PyData.eqv (dB c) (dB d) = decide (c = d) := En.eqv c d
  rw [e1, e2, Bool.and_true]
theorem law_true (ns : List Int) (hl : ns.length ≤ 63) : ∃ f as', f_law [.s ns] = some (.v f (.bool true), as') := by
  have hz : sizeLine = 16777216 := sizeLine_eq
  have hc0 := r_cell_at ns 0
  have hc1 := r_cell_at ns 1
  have hc2 := r_cell_at ns 2
  have hc3 := r_cell_at ns 3
  have hmx := r_mixed (ns.getD 0 0) 1 (by decide)
  simp only [x02, x9h, xa1, xa0, x9y, x9z, x9x, x33, x30, x2y, x2z, x32, x31, x52, x50, x4z, x51, x4y, x4w, x4x, xbh, xbm, xbi, xbf, xbg, xbe, xbj, xbl, xbk, xba, xbd, xbb, xbc, x7b, x7c, x7a, x7e, x7d, x78, x79, xb5, xb9, xb6, xb8, xb7, x00, x01, x8j, x8c, x18, x19, x1a, xb3, xb4, x0j, x0g, x0i, x0h, x8d, x8e, x8g, x8f, x82, x83, x84, xat, xar, xas, xal, xak, xap, xao, xan, xam, xeh, x07, x03, x04, x05, x06, x08, x09, x6j, x6c, x6d, x6e, x6f, x6g, x6h, x6i, x2q, x2p, x2r, x2s, xav, xaq, x77, x76, x3m, x3l, xa3, xa4, xab, xac, xad, xae, xaf, xag, xah, xai, xa5, xa6, xa7, xa8, xa9, xaa, xaj, x89, x8a, x8h, x8i, x9m, x9n, x9o, x9p, x9q, x9r, x9s, x6x, x6v, x6w, x20, x1v, x1w, x1y, x1x, x1z, x4v, x4t, x4u, x4q, x4r, x4s, x5b, x1b, x1i, x1h, x1g, x1d, x74, x75, x73, x6z, x6y, x72, x70, x71, x9e, x5k, x5l, x5m, x5n, x8x, x8y, x8z, x90, x91, x92, x93, x2v, x2t, x2u, xei, xej, xek, xel, x8w, x98, x99, xb1, xb2, xb0, xaz, x81, x80, x87, x88, x85, x86, xd1, xd0, x8t, x8s, x6r, x6n, x6p, x6o, x8b, x6k, x6l, x6m, x7z, x1c, x2b, x8v, x9f, x9v, x9w, x9u, x9t, x59, x5a, x8u, x97, x35, x34, x0o, x0a, x0b, x0d, x0c, x0e, x0p, x0q, x0r, x12, x0z, x10, x11, x5o, x5g, x9g, x9a, x9b, x9c, x9d, x0n, x0l, x0m, x36, xef, xeg, x4p, x4o, xax, xay, x53, x55, x54, xaw, xau, x3f, x3e, x3d, x3g, x8p, x8o, x8q, x8r, x7r, x7p, x7q, x7o, x7m, x7k, x7l, x7n, x7i, x7h, x7f, x7g, x14, x16, x17, x15, x13, x1f, x1e, x5j, x5h, x5i, x57, x58, x56, x27, x2a, x29, x28, x9k, x9j, x9l, x9i, x1j, x21, x22, x23, x26, x25, x24, x7v, x7w, x3n, x3h, x3i, x7j, x7s, x7t, x7u, x96, x95, x94, x5e, x5f, x5c, x3p, x3q, x3r, x3s, x3t, x3u, x3v, x3w, x3x, x4a, x4l, x49, x4b, x4c, x3j, x2o, x2j, x2d, x2i, x2m, x2n, x2c, x2h, x2g, x2f, x2e, x2k, x6s, x6u, x6t, x2x, x7y, x2w, x7x, x5u, x5r, x5q, x5v, x5s, x5p, x5t, x6a, x67, x66, x6b, x68, x65, x69, x5z, x5x, x5y, x5w, x60, x64, x63, x61, x62, xbn, xd2, xbt, xd8, xbo, xd3, xbr, xd6, xbp, xd4, xbq, xd5, xbs, xd7, xct, xe8, xcz, xee, xcu, xe9, xcx, xec, xcv, xea, xcw, xeb, xcy, xed, xbu, xd9, xc0, xdf, xbv, xda, xby, xdd, xbw, xdb, xbx, xdc, xbz, xde, xcf, xdu, xcl, xe0, xcg, xdv, xcj, xdy, xch, xdw, xci, xdx, xck, xdz, xc1, xdg, xc7, xdm, xc2, xdh, xc5, xdk, xc3, xdi, xc4, xdj, xc6, xdl, xc8, xdn, xce, xdt, xc9, xdo, xcc, xdr, xca, xdp, xcb, xdq, xcd, xds, xcm, xe1, xcs, xe7, xcn, xe2, xcq, xe5, xco, xe3, xcp, xe4, xcr, xe6, x8k, x8l, x8m, x8n, x0s, x0t, x0u, x0v, x0w, x0x, x0y, x3y, x4n, x41, x4e, x44, x4j, x47, x4g, x4m, x40, x4d, x43, x4i, x46, x4h, x3z, x42, x4f, x45, x4k, x48, x37, x3c, x38, x39, x3a, x3b, x1n, x1o, x1p, x1q, x1r, x1s, x1t, x1u, x1k, x1l, x1m, List.getElem?_cons_zero, List.getElem?_cons_succ, List.set_cons_zero, List.set_cons_succ, List.replicate, List.cons_append, List.nil_append, List.take_succ_cons, List.take_zero, List.getD_cons_zero, List.getD_cons_succ, List.map_cons, List.map_nil, if_true, if_false, Bool.true_and, Bool.and_true, Bool.false_and, Bool.and_false, Bool.true_or, Bool.or_true, Bool.false_or, Bool.or_false, Bool.not_true, Bool.not_false, reduceIte, Bool.false_eq_true, eq_self, Nat.sub_self, sc, noL, noLAll, Option.map_some, Int.toNat_natCast, Nat.reduceSub, Nat.reduceAdd, decide_true, decide_false, List.length_cons, List.length_nil, Int.reduceLT, Int.reduceLE, Int.reduceAdd, Int.reduceMul, Int.reduceSub, Int.reduceNeg, Int.reduceToNat, Int.reducePow, Int.reduceMod, Int.reduceDiv, Int.reduceEq, Nat.reducePow, Nat.reduceMul, Nat.reduceLT, Nat.reduceLeDiff, Int.ofNat_zero, Int.natCast_zero, Int.natCast_one, Int.ofNat_eq_natCast, Int.natCast_nonneg, beq_self_eq_true, Option.isNone_none, Option.isNone_some, Bool.not_eq_true, List.append_nil, Option.bind_some, List.lookup_cons, List.contains_nil, List.contains_cons] at hc0 hc1 hc2 hc3 hmx
  obtain ⟨mx, hmxe⟩ : ∃ m : Nat, m = mixedN (ns.getD 0 0) 1 := ⟨_, rfl⟩
  rw [← hmxe] at hmx
  obtain ⟨many, hmany⟩ : ∃ n : Nat, n = 1 + mx % 60 := ⟨_, rfl⟩
  have hm0 : 0 < many := by omega
  have hm1 : many ≤ 60 := by omega
  have hr := r_sheet (ns.getD 1 0) (ns.getD 2 0) many hm1
  obtain ⟨sh, hsh⟩ : ∃ r, r = sheetL (truthsL (ns.getD 1 0) many 0) (truthsL (ns.getD 2 0) many 1) := ⟨_, rfl⟩
  rw [← hsh] at hr
  have lsh : sh.length = many := by rw [hsh, sheetL_len _ _ (by rw [truthsL_len, truthsL_len]), truthsL_len]
  have hw := r_truths (ns.getD 2 0) many 2 (by decide) (by omega)
  simp only [x02, x9h, xa1, xa0, x9y, x9z, x9x, x33, x30, x2y, x2z, x32, x31, x52, x50, x4z, x51, x4y, x4w, x4x, xbh, xbm, xbi, xbf, xbg, xbe, xbj, xbl, xbk, xba, xbd, xbb, xbc, x7b, x7c, x7a, x7e, x7d, x78, x79, xb5, xb9, xb6, xb8, xb7, x00, x01, x8j, x8c, x18, x19, x1a, xb3, xb4, x0j, x0g, x0i, x0h, x8d, x8e, x8g, x8f, x82, x83, x84, xat, xar, xas, xal, xak, xap, xao, xan, xam, xeh, x07, x03, x04, x05, x06, x08, x09, x6j, x6c, x6d, x6e, x6f, x6g, x6h, x6i, x2q, x2p, x2r, x2s, xav, xaq, x77, x76, x3m, x3l, xa3, xa4, xab, xac, xad, xae, xaf, xag, xah, xai, xa5, xa6, xa7, xa8, xa9, xaa, xaj, x89, x8a, x8h, x8i, x9m, x9n, x9o, x9p, x9q, x9r, x9s, x6x, x6v, x6w, x20, x1v, x1w, x1y, x1x, x1z, x4v, x4t, x4u, x4q, x4r, x4s, x5b, x1b, x1i, x1h, x1g, x1d, x74, x75, x73, x6z, x6y, x72, x70, x71, x9e, x5k, x5l, x5m, x5n, x8x, x8y, x8z, x90, x91, x92, x93, x2v, x2t, x2u, xei, xej, xek, xel, x8w, x98, x99, xb1, xb2, xb0, xaz, x81, x80, x87, x88, x85, x86, xd1, xd0, x8t, x8s, x6r, x6n, x6p, x6o, x8b, x6k, x6l, x6m, x7z, x1c, x2b, x8v, x9f, x9v, x9w, x9u, x9t, x59, x5a, x8u, x97, x35, x34, x0o, x0a, x0b, x0d, x0c, x0e, x0p, x0q, x0r, x12, x0z, x10, x11, x5o, x5g, x9g, x9a, x9b, x9c, x9d, x0n, x0l, x0m, x36, xef, xeg, x4p, x4o, xax, xay, x53, x55, x54, xaw, xau, x3f, x3e, x3d, x3g, x8p, x8o, x8q, x8r, x7r, x7p, x7q, x7o, x7m, x7k, x7l, x7n, x7i, x7h, x7f, x7g, x14, x16, x17, x15, x13, x1f, x1e, x5j, x5h, x5i, x57, x58, x56, x27, x2a, x29, x28, x9k, x9j, x9l, x9i, x1j, x21, x22, x23, x26, x25, x24, x7v, x7w, x3n, x3h, x3i, x7j, x7s, x7t, x7u, x96, x95, x94, x5e, x5f, x5c, x3p, x3q, x3r, x3s, x3t, x3u, x3v, x3w, x3x, x4a, x4l, x49, x4b, x4c, x3j, x2o, x2j, x2d, x2i, x2m, x2n, x2c, x2h, x2g, x2f, x2e, x2k, x6s, x6u, x6t, x2x, x7y, x2w, x7x, x5u, x5r, x5q, x5v, x5s, x5p, x5t, x6a, x67, x66, x6b, x68, x65, x69, x5z, x5x, x5y, x5w, x60, x64, x63, x61, x62, xbn, xd2, xbt, xd8, xbo, xd3, xbr, xd6, xbp, xd4, xbq, xd5, xbs, xd7, xct, xe8, xcz, xee, xcu, xe9, xcx, xec, xcv, xea, xcw, xeb, xcy, xed, xbu, xd9, xc0, xdf, xbv, xda, xby, xdd, xbw, xdb, xbx, xdc, xbz, xde, xcf, xdu, xcl, xe0, xcg, xdv, xcj, xdy, xch, xdw, xci, xdx, xck, xdz, xc1, xdg, xc7, xdm, xc2, xdh, xc5, xdk, xc3, xdi, xc4, xdj, xc6, xdl, xc8, xdn, xce, xdt, xc9, xdo, xcc, xdr, xca, xdp, xcb, xdq, xcd, xds, xcm, xe1, xcs, xe7, xcn, xe2, xcq, xe5, xco, xe3, xcp, xe4, xcr, xe6, x8k, x8l, x8m, x8n, x0s, x0t, x0u, x0v, x0w, x0x, x0y, x3y, x4n, x41, x4e, x44, x4j, x47, x4g, x4m, x40, x4d, x43, x4i, x46, x4h, x3z, x42, x4f, x45, x4k, x48, x37, x3c, x38, x39, x3a, x3b, x1n, x1o, x1p, x1q, x1r, x1s, x1t, x1u, x1k, x1l, x1m, List.getElem?_cons_zero, List.getElem?_cons_succ, List.set_cons_zero, List.set_cons_succ, List.replicate, List.cons_append, List.nil_append, List.take_succ_cons, List.take_zero, List.getD_cons_zero, List.getD_cons_succ, List.map_cons, List.map_nil, if_true, if_false, Bool.true_and, Bool.and_true, Bool.false_and, Bool.and_false, Bool.true_or, Bool.or_true, Bool.false_or, Bool.or_false, Bool.not_true, Bool.not_false, reduceIte, Bool.false_eq_true, eq_self, Nat.sub_self, sc, noL, noLAll, Option.map_some, Int.toNat_natCast, Nat.reduceSub, Nat.reduceAdd, decide_true, decide_false, List.length_cons, List.length_nil, Int.reduceLT, Int.reduceLE, Int.reduceAdd, Int.reduceMul, Int.reduceSub, Int.reduceNeg, Int.reduceToNat, Int.reducePow, Int.reduceMod, Int.reduceDiv, Int.reduceEq, Nat.reducePow, Nat.reduceMul, Nat.reduceLT, Nat.reduceLeDiff, Int.ofNat_zero, Int.natCast_zero, Int.natCast_one, Int.ofNat_eq_natCast, Int.natCast_nonneg, beq_self_eq_true, Option.isNone_none, Option.isNone_some, Bool.not_eq_true, List.append_nil, Option.bind_some, List.lookup_cons, List.contains_nil, List.contains_cons] at hw
  obtain ⟨wo, hwo⟩ : ∃ r, r = truthsL (ns.getD 2 0) many 2 := ⟨_, rfl⟩
  rw [← hwo] at hw
  have lwo : wo.length = many := by rw [hwo, truthsL_len]
  obtain ⟨cells, hcells⟩ : ∃ c, c = cutL ns (some 4) (some 64) := ⟨_, rfl⟩
  have lce : cells.length ≤ 63 := by rw [hcells]; exact Nat.le_trans (cutL_len ..) hl
  have hit := r_items cells many hm0 hm1 (by omega)
  obtain ⟨its, hits⟩ : ∃ r, r = cells.map fun c => itemOf c many := ⟨_, rfl⟩
  rw [← hits] at hit
  have lits : its.length ≤ 63 := by rw [hits, List.length_map]; exact lce
  have oki : ∀ p ∈ its, p.1 < many := fun p hp => by
    rw [hits] at hp
    obtain ⟨c, _, rfl⟩ := List.mem_map.mp hp
    exact Nat.mod_lt _ hm0
  refine law_ev ?_
  unfold b_law
  simp only [Nat.reduceSub, List.replicate]
  refine Ev.seq (by simp only [x02, x9h, xa1, xa0, x9y, x9z, x9x, x33, x30, x2y, x2z, x32, x31, x52, x50, x4z, x51, x4y, x4w, x4x, xbh, xbm, xbi, xbf, xbg, xbe, xbj, xbl, xbk, xba, xbd, xbb, xbc, x7b, x7c, x7a, x7e, x7d, x78, x79, xb5, xb9, xb6, xb8, xb7, x00, x01, x8j, x8c, x18, x19, x1a, xb3, xb4, x0j, x0g, x0i, x0h, x8d, x8e, x8g, x8f, x82, x83, x84, xat, xar, xas, xal, xak, xap, xao, xan, xam, xeh, x07, x03, x04, x05, x06, x08, x09, x6j, x6c, x6d, x6e, x6f, x6g, x6h, x6i, x2q, x2p, x2r, x2s, xav, xaq, x77, x76, x3m, x3l, xa3, xa4, xab, xac, xad, xae, xaf, xag, xah, xai, xa5, xa6, xa7, xa8, xa9, xaa, xaj, x89, x8a, x8h, x8i, x9m, x9n, x9o, x9p, x9q, x9r, x9s, x6x, x6v, x6w, x20, x1v, x1w, x1y, x1x, x1z, x4v, x4t, x4u, x4q, x4r, x4s, x5b, x1b, x1i, x1h, x1g, x1d, x74, x75, x73, x6z, x6y, x72, x70, x71, x9e, x5k, x5l, x5m, x5n, x8x, x8y, x8z, x90, x91, x92, x93, x2v, x2t, x2u, xei, xej, xek, xel, x8w, x98, x99, xb1, xb2, xb0, xaz, x81, x80, x87, x88, x85, x86, xd1, xd0, x8t, x8s, x6r, x6n, x6p, x6o, x8b, x6k, x6l, x6m, x7z, x1c, x2b, x8v, x9f, x9v, x9w, x9u, x9t, x59, x5a, x8u, x97, x35, x34, x0o, x0a, x0b, x0d, x0c, x0e, x0p, x0q, x0r, x12, x0z, x10, x11, x5o, x5g, x9g, x9a, x9b, x9c, x9d, x0n, x0l, x0m, x36, xef, xeg, x4p, x4o, xax, xay, x53, x55, x54, xaw, xau, x3f, x3e, x3d, x3g, x8p, x8o, x8q, x8r, x7r, x7p, x7q, x7o, x7m, x7k, x7l, x7n, x7i, x7h, x7f, x7g, x14, x16, x17, x15, x13, x1f, x1e, x5j, x5h, x5i, x57, x58, x56, x27, x2a, x29, x28, x9k, x9j, x9l, x9i, x1j, x21, x22, x23, x26, x25, x24, x7v, x7w, x3n, x3h, x3i, x7j, x7s, x7t, x7u, x96, x95, x94, x5e, x5f, x5c, x3p, x3q, x3r, x3s, x3t, x3u, x3v, x3w, x3x, x4a, x4l, x49, x4b, x4c, x3j, x2o, x2j, x2d, x2i, x2m, x2n, x2c, x2h, x2g, x2f, x2e, x2k, x6s, x6u, x6t, x2x, x7y, x2w, x7x, x5u, x5r, x5q, x5v, x5s, x5p, x5t, x6a, x67, x66, x6b, x68, x65, x69, x5z, x5x, x5y, x5w, x60, x64, x63, x61, x62, xbn, xd2, xbt, xd8, xbo, xd3, xbr, xd6, xbp, xd4, xbq, xd5, xbs, xd7, xct, xe8, xcz, xee, xcu, xe9, xcx, xec, xcv, xea, xcw, xeb, xcy, xed, xbu, xd9, xc0, xdf, xbv, xda, xby, xdd, xbw, xdb, xbx, xdc, xbz, xde, xcf, xdu, xcl, xe0, xcg, xdv, xcj, xdy, xch, xdw, xci, xdx, xck, xdz, xc1, xdg, xc7, xdm, xc2, xdh, xc5, xdk, xc3, xdi, xc4, xdj, xc6, xdl, xc8, xdn, xce, xdt, xc9, xdo, xcc, xdr, xca, xdp, xcb, xdq, xcd, xds, xcm, xe1, xcs, xe7, xcn, xe2, xcq, xe5, xco, xe3, xcp, xe4, xcr, xe6, x8k, x8l, x8m, x8n, x0s, x0t, x0u, x0v, x0w, x0x, x0y, x3y, x4n, x41, x4e, x44, x4j, x47, x4g, x4m, x40, x4d, x43, x4i, x46, x4h, x3z, x42, x4f, x45, x4k, x48, x37, x3c, x38, x39, x3a, x3b, x1n, x1o, x1p, x1q, x1r, x1s, x1t, x1u, x1k, x1l, x1m, List.getElem?_cons_zero, List.getElem?_cons_succ, List.set_cons_zero, List.set_cons_succ, List.replicate, List.cons_append, List.nil_append, List.take_succ_cons, List.take_zero, List.getD_cons_zero, List.getD_cons_succ, List.map_cons, List.map_nil, if_true, if_false, Bool.true_and, Bool.and_true, Bool.false_and, Bool.and_false, Bool.true_or, Bool.or_true, Bool.false_or, Bool.or_false, Bool.not_true, Bool.not_false, reduceIte, Bool.false_eq_true, eq_self, Nat.sub_self, sc, noL, noLAll, Option.map_some, Int.toNat_natCast, Nat.reduceSub, Nat.reduceAdd, decide_true, decide_false, List.length_cons, List.length_nil, Int.reduceLT, Int.reduceLE, Int.reduceAdd, Int.reduceMul, Int.reduceSub, Int.reduceNeg, Int.reduceToNat, Int.reducePow, Int.reduceMod, Int.reduceDiv, Int.reduceEq, Nat.reducePow, Nat.reduceMul, Nat.reduceLT, Nat.reduceLeDiff, Int.ofNat_zero, Int.natCast_zero, Int.natCast_one, Int.ofNat_eq_natCast, Int.natCast_nonneg, beq_self_eq_true, Option.isNone_none, Option.isNone_some, Bool.not_eq_true, List.append_nil, Option.bind_some, List.lookup_cons, List.contains_nil, List.contains_cons, hc0, hmx] <;> exact rfl) ?_
  refine Ev.seq (e1 := [.s ns, .v true (.int mx), .v true (.int many), .u, .u, .u, .u, .u, .u, .u, .u, .u, .u, .u, .u, .u, .u]) (by
    simp only [x02, x9h, xa1, xa0, x9y, x9z, x9x, x33, x30, x2y, x2z, x32, x31, x52, x50, x4z, x51, x4y, x4w, x4x, xbh, xbm, xbi, xbf, xbg, xbe, xbj, xbl, xbk, xba, xbd, xbb, xbc, x7b, x7c, x7a, x7e, x7d, x78, x79, xb5, xb9, xb6, xb8, xb7, x00, x01, x8j, x8c, x18, x19, x1a, xb3, xb4, x0j, x0g, x0i, x0h, x8d, x8e, x8g, x8f, x82, x83, x84, xat, xar, xas, xal, xak, xap, xao, xan, xam, xeh, x07, x03, x04, x05, x06, x08, x09, x6j, x6c, x6d, x6e, x6f, x6g, x6h, x6i, x2q, x2p, x2r, x2s, xav, xaq, x77, x76, x3m, x3l, xa3, xa4, xab, xac, xad, xae, xaf, xag, xah, xai, xa5, xa6, xa7, xa8, xa9, xaa, xaj, x89, x8a, x8h, x8i, x9m, x9n, x9o, x9p, x9q, x9r, x9s, x6x, x6v, x6w, x20, x1v, x1w, x1y, x1x, x1z, x4v, x4t, x4u, x4q, x4r, x4s, x5b, x1b, x1i, x1h, x1g, x1d, x74, x75, x73, x6z, x6y, x72, x70, x71, x9e, x5k, x5l, x5m, x5n, x8x, x8y, x8z, x90, x91, x92, x93, x2v, x2t, x2u, xei, xej, xek, xel, x8w, x98, x99, xb1, xb2, xb0, xaz, x81, x80, x87, x88, x85, x86, xd1, xd0, x8t, x8s, x6r, x6n, x6p, x6o, x8b, x6k, x6l, x6m, x7z, x1c, x2b, x8v, x9f, x9v, x9w, x9u, x9t, x59, x5a, x8u, x97, x35, x34, x0o, x0a, x0b, x0d, x0c, x0e, x0p, x0q, x0r, x12, x0z, x10, x11, x5o, x5g, x9g, x9a, x9b, x9c, x9d, x0n, x0l, x0m, x36, xef, xeg, x4p, x4o, xax, xay, x53, x55, x54, xaw, xau, x3f, x3e, x3d, x3g, x8p, x8o, x8q, x8r, x7r, x7p, x7q, x7o, x7m, x7k, x7l, x7n, x7i, x7h, x7f, x7g, x14, x16, x17, x15, x13, x1f, x1e, x5j, x5h, x5i, x57, x58, x56, x27, x2a, x29, x28, x9k, x9j, x9l, x9i, x1j, x21, x22, x23, x26, x25, x24, x7v, x7w, x3n, x3h, x3i, x7j, x7s, x7t, x7u, x96, x95, x94, x5e, x5f, x5c, x3p, x3q, x3r, x3s, x3t, x3u, x3v, x3w, x3x, x4a, x4l, x49, x4b, x4c, x3j, x2o, x2j, x2d, x2i, x2m, x2n, x2c, x2h, x2g, x2f, x2e, x2k, x6s, x6u, x6t, x2x, x7y, x2w, x7x, x5u, x5r, x5q, x5v, x5s, x5p, x5t, x6a, x67, x66, x6b, x68, x65, x69, x5z, x5x, x5y, x5w, x60, x64, x63, x61, x62, xbn, xd2, xbt, xd8, xbo, xd3, xbr, xd6, xbp, xd4, xbq, xd5, xbs, xd7, xct, xe8, xcz, xee, xcu, xe9, xcx, xec, xcv, xea, xcw, xeb, xcy, xed, xbu, xd9, xc0, xdf, xbv, xda, xby, xdd, xbw, xdb, xbx, xdc, xbz, xde, xcf, xdu, xcl, xe0, xcg, xdv, xcj, xdy, xch, xdw, xci, xdx, xck, xdz, xc1, xdg, xc7, xdm, xc2, xdh, xc5, xdk, xc3, xdi, xc4, xdj, xc6, xdl, xc8, xdn, xce, xdt, xc9, xdo, xcc, xdr, xca, xdp, xcb, xdq, xcd, xds, xcm, xe1, xcs, xe7, xcn, xe2, xcq, xe5, xco, xe3, xcp, xe4, xcr, xe6, x8k, x8l, x8m, x8n, x0s, x0t, x0u, x0v, x0w, x0x, x0y, x3y, x4n, x41, x4e, x44, x4j, x47, x4g, x4m, x40, x4d, x43, x4i, x46, x4h, x3z, x42, x4f, x45, x4k, x48, x37, x3c, x38, x39, x3a, x3b, x1n, x1o, x1p, x1q, x1r, x1s, x1t, x1u, x1k, x1l, x1m, List.getElem?_cons_zero, List.getElem?_cons_succ, List.set_cons_zero, List.set_cons_succ, List.replicate, List.cons_append, List.nil_append, List.take_succ_cons, List.take_zero, List.getD_cons_zero, List.getD_cons_succ, List.map_cons, List.map_nil, if_true, if_false, Bool.true_and, Bool.and_true, Bool.false_and, Bool.and_false, Bool.true_or, Bool.or_true, Bool.false_or, Bool.or_false, Bool.not_true, Bool.not_false, reduceIte, Bool.false_eq_true, eq_self, Nat.sub_self, sc, noL, noLAll, Option.map_some, Int.toNat_natCast, Nat.reduceSub, Nat.reduceAdd, decide_true, decide_false, List.length_cons, List.length_nil, Int.reduceLT, Int.reduceLE, Int.reduceAdd, Int.reduceMul, Int.reduceSub, Int.reduceNeg, Int.reduceToNat, Int.reducePow, Int.reduceMod, Int.reduceDiv, Int.reduceEq, Nat.reducePow, Nat.reduceMul, Nat.reduceLT, Nat.reduceLeDiff, Int.ofNat_zero, Int.natCast_zero, Int.natCast_one, Int.ofNat_eq_natCast, Int.natCast_nonneg, beq_self_eq_true, Option.isNone_none, Option.isNone_some, Bool.not_eq_true, List.append_nil, Option.bind_some, List.lookup_cons, List.contains_nil, List.contains_cons]
    rw [hmany, show (1 : Int) + (mx : Int) % 60 = ((1 + mx % 60 : Nat) : Int) from by omega]) ?_
  refine Ev.seq (by simp only [x02, x9h, xa1, xa0, x9y, x9z, x9x, x33, x30, x2y, x2z, x32, x31, x52, x50, x4z, x51, x4y, x4w, x4x, xbh, xbm, xbi, xbf, xbg, xbe, xbj, xbl, xbk, xba, xbd, xbb, xbc, x7b, x7c, x7a, x7e, x7d, x78, x79, xb5, xb9, xb6, xb8, xb7, x00, x01, x8j, x8c, x18, x19, x1a, xb3, xb4, x0j, x0g, x0i, x0h, x8d, x8e, x8g, x8f, x82, x83, x84, xat, xar, xas, xal, xak, xap, xao, xan, xam, xeh, x07, x03, x04, x05, x06, x08, x09, x6j, x6c, x6d, x6e, x6f, x6g, x6h, x6i, x2q, x2p, x2r, x2s, xav, xaq, x77, x76, x3m, x3l, xa3, xa4, xab, xac, xad, xae, xaf, xag, xah, xai, xa5, xa6, xa7, xa8, xa9, xaa, xaj, x89, x8a, x8h, x8i, x9m, x9n, x9o, x9p, x9q, x9r, x9s, x6x, x6v, x6w, x20, x1v, x1w, x1y, x1x, x1z, x4v, x4t, x4u, x4q, x4r, x4s, x5b, x1b, x1i, x1h, x1g, x1d, x74, x75, x73, x6z, x6y, x72, x70, x71, x9e, x5k, x5l, x5m, x5n, x8x, x8y, x8z, x90, x91, x92, x93, x2v, x2t, x2u, xei, xej, xek, xel, x8w, x98, x99, xb1, xb2, xb0, xaz, x81, x80, x87, x88, x85, x86, xd1, xd0, x8t, x8s, x6r, x6n, x6p, x6o, x8b, x6k, x6l, x6m, x7z, x1c, x2b, x8v, x9f, x9v, x9w, x9u, x9t, x59, x5a, x8u, x97, x35, x34, x0o, x0a, x0b, x0d, x0c, x0e, x0p, x0q, x0r, x12, x0z, x10, x11, x5o, x5g, x9g, x9a, x9b, x9c, x9d, x0n, x0l, x0m, x36, xef, xeg, x4p, x4o, xax, xay, x53, x55, x54, xaw, xau, x3f, x3e, x3d, x3g, x8p, x8o, x8q, x8r, x7r, x7p, x7q, x7o, x7m, x7k, x7l, x7n, x7i, x7h, x7f, x7g, x14, x16, x17, x15, x13, x1f, x1e, x5j, x5h, x5i, x57, x58, x56, x27, x2a, x29, x28, x9k, x9j, x9l, x9i, x1j, x21, x22, x23, x26, x25, x24, x7v, x7w, x3n, x3h, x3i, x7j, x7s, x7t, x7u, x96, x95, x94, x5e, x5f, x5c, x3p, x3q, x3r, x3s, x3t, x3u, x3v, x3w, x3x, x4a, x4l, x49, x4b, x4c, x3j, x2o, x2j, x2d, x2i, x2m, x2n, x2c, x2h, x2g, x2f, x2e, x2k, x6s, x6u, x6t, x2x, x7y, x2w, x7x, x5u, x5r, x5q, x5v, x5s, x5p, x5t, x6a, x67, x66, x6b, x68, x65, x69, x5z, x5x, x5y, x5w, x60, x64, x63, x61, x62, xbn, xd2, xbt, xd8, xbo, xd3, xbr, xd6, xbp, xd4, xbq, xd5, xbs, xd7, xct, xe8, xcz, xee, xcu, xe9, xcx, xec, xcv, xea, xcw, xeb, xcy, xed, xbu, xd9, xc0, xdf, xbv, xda, xby, xdd, xbw, xdb, xbx, xdc, xbz, xde, xcf, xdu, xcl, xe0, xcg, xdv, xcj, xdy, xch, xdw, xci, xdx, xck, xdz, xc1, xdg, xc7, xdm, xc2, xdh, xc5, xdk, xc3, xdi, xc4, xdj, xc6, xdl, xc8, xdn, xce, xdt, xc9, xdo, xcc, xdr, xca, xdp, xcb, xdq, xcd, xds, xcm, xe1, xcs, xe7, xcn, xe2, xcq, xe5, xco, xe3, xcp, xe4, xcr, xe6, x8k, x8l, x8m, x8n, x0s, x0t, x0u, x0v, x0w, x0x, x0y, x3y, x4n, x41, x4e, x44, x4j, x47, x4g, x4m, x40, x4d, x43, x4i, x46, x4h, x3z, x42, x4f, x45, x4k, x48, x37, x3c, x38, x39, x3a, x3b, x1n, x1o, x1p, x1q, x1r, x1s, x1t, x1u, x1k, x1l, x1m, List.getElem?_cons_zero, List.getElem?_cons_succ, List.set_cons_zero, List.set_cons_succ, List.replicate, List.cons_append, List.nil_append, List.take_succ_cons, List.take_zero, List.getD_cons_zero, List.getD_cons_succ, List.map_cons, List.map_nil, if_true, if_false, Bool.true_and, Bool.and_true, Bool.false_and, Bool.and_false, Bool.true_or, Bool.or_true, Bool.false_or, Bool.or_false, Bool.not_true, Bool.not_false, reduceIte, Bool.false_eq_true, eq_self, Nat.sub_self, sc, noL, noLAll, Option.map_some, Int.toNat_natCast, Nat.reduceSub, Nat.reduceAdd, decide_true, decide_false, List.length_cons, List.length_nil, Int.reduceLT, Int.reduceLE, Int.reduceAdd, Int.reduceMul, Int.reduceSub, Int.reduceNeg, Int.reduceToNat, Int.reducePow, Int.reduceMod, Int.reduceDiv, Int.reduceEq, Nat.reducePow, Nat.reduceMul, Nat.reduceLT, Nat.reduceLeDiff, Int.ofNat_zero, Int.natCast_zero, Int.natCast_one, Int.ofNat_eq_natCast, Int.natCast_nonneg, beq_self_eq_true, Option.isNone_none, Option.isNone_some, Bool.not_eq_true, List.append_nil, Option.bind_some, List.lookup_cons, List.contains_nil, List.contains_cons, hc1, hc2, hr] <;> exact rfl) ?_
  refine Ev.seq (by simp only [x02, x9h, xa1, xa0, x9y, x9z, x9x, x33, x30, x2y, x2z, x32, x31, x52, x50, x4z, x51, x4y, x4w, x4x, xbh, xbm, xbi, xbf, xbg, xbe, xbj, xbl, xbk, xba, xbd, xbb, xbc, x7b, x7c, x7a, x7e, x7d, x78, x79, xb5, xb9, xb6, xb8, xb7, x00, x01, x8j, x8c, x18, x19, x1a, xb3, xb4, x0j, x0g, x0i, x0h, x8d, x8e, x8g, x8f, x82, x83, x84, xat, xar, xas, xal, xak, xap, xao, xan, xam, xeh, x07, x03, x04, x05, x06, x08, x09, x6j, x6c, x6d, x6e, x6f, x6g, x6h, x6i, x2q, x2p, x2r, x2s, xav, xaq, x77, x76, x3m, x3l, xa3, xa4, xab, xac, xad, xae, xaf, xag, xah, xai, xa5, xa6, xa7, xa8, xa9, xaa, xaj, x89, x8a, x8h, x8i, x9m, x9n, x9o, x9p, x9q, x9r, x9s, x6x, x6v, x6w, x20, x1v, x1w, x1y, x1x, x1z, x4v, x4t, x4u, x4q, x4r, x4s, x5b, x1b, x1i, x1h, x1g, x1d, x74, x75, x73, x6z, x6y, x72, x70, x71, x9e, x5k, x5l, x5m, x5n, x8x, x8y, x8z, x90, x91, x92, x93, x2v, x2t, x2u, xei, xej, xek, xel, x8w, x98, x99, xb1, xb2, xb0, xaz, x81, x80, x87, x88, x85, x86, xd1, xd0, x8t, x8s, x6r, x6n, x6p, x6o, x8b, x6k, x6l, x6m, x7z, x1c, x2b, x8v, x9f, x9v, x9w, x9u, x9t, x59, x5a, x8u, x97, x35, x34, x0o, x0a, x0b, x0d, x0c, x0e, x0p, x0q, x0r, x12, x0z, x10, x11, x5o, x5g, x9g, x9a, x9b, x9c, x9d, x0n, x0l, x0m, x36, xef, xeg, x4p, x4o, xax, xay, x53, x55, x54, xaw, xau, x3f, x3e, x3d, x3g, x8p, x8o, x8q, x8r, x7r, x7p, x7q, x7o, x7m, x7k, x7l, x7n, x7i, x7h, x7f, x7g, x14, x16, x17, x15, x13, x1f, x1e, x5j, x5h, x5i, x57, x58, x56, x27, x2a, x29, x28, x9k, x9j, x9l, x9i, x1j, x21, x22, x23, x26, x25, x24, x7v, x7w, x3n, x3h, x3i, x7j, x7s, x7t, x7u, x96, x95, x94, x5e, x5f, x5c, x3p, x3q, x3r, x3s, x3t, x3u, x3v, x3w, x3x, x4a, x4l, x49, x4b, x4c, x3j, x2o, x2j, x2d, x2i, x2m, x2n, x2c, x2h, x2g, x2f, x2e, x2k, x6s, x6u, x6t, x2x, x7y, x2w, x7x, x5u, x5r, x5q, x5v, x5s, x5p, x5t, x6a, x67, x66, x6b, x68, x65, x69, x5z, x5x, x5y, x5w, x60, x64, x63, x61, x62, xbn, xd2, xbt, xd8, xbo, xd3, xbr, xd6, xbp, xd4, xbq, xd5, xbs, xd7, xct, xe8, xcz, xee, xcu, xe9, xcx, xec, xcv, xea, xcw, xeb, xcy, xed, xbu, xd9, xc0, xdf, xbv, xda, xby, xdd, xbw, xdb, xbx, xdc, xbz, xde, xcf, xdu, xcl, xe0, xcg, xdv, xcj, xdy, xch, xdw, xci, xdx, xck, xdz, xc1, xdg, xc7, xdm, xc2, xdh, xc5, xdk, xc3, xdi, xc4, xdj, xc6, xdl, xc8, xdn, xce, xdt, xc9, xdo, xcc, xdr, xca, xdp, xcb, xdq, xcd, xds, xcm, xe1, xcs, xe7, xcn, xe2, xcq, xe5, xco, xe3, xcp, xe4, xcr, xe6, x8k, x8l, x8m, x8n, x0s, x0t, x0u, x0v, x0w, x0x, x0y, x3y, x4n, x41, x4e, x44, x4j, x47, x4g, x4m, x40, x4d, x43, x4i, x46, x4h, x3z, x42, x4f, x45, x4k, x48, x37, x3c, x38, x39, x3a, x3b, x1n, x1o, x1p, x1q, x1r, x1s, x1t, x1u, x1k, x1l, x1m, List.getElem?_cons_zero, List.getElem?_cons_succ, List.set_cons_zero, List.set_cons_succ, List.replicate, List.cons_append, List.nil_append, List.take_succ_cons, List.take_zero, List.getD_cons_zero, List.getD_cons_succ, List.map_cons, List.map_nil, if_true, if_false, Bool.true_and, Bool.and_true, Bool.false_and, Bool.and_false, Bool.true_or, Bool.or_true, Bool.false_or, Bool.or_false, Bool.not_true, Bool.not_false, reduceIte, Bool.false_eq_true, eq_self, Nat.sub_self, sc, noL, noLAll, Option.map_some, Int.toNat_natCast, Nat.reduceSub, Nat.reduceAdd, decide_true, decide_false, List.length_cons, List.length_nil, Int.reduceLT, Int.reduceLE, Int.reduceAdd, Int.reduceMul, Int.reduceSub, Int.reduceNeg, Int.reduceToNat, Int.reducePow, Int.reduceMod, Int.reduceDiv, Int.reduceEq, Nat.reducePow, Nat.reduceMul, Nat.reduceLT, Nat.reduceLeDiff, Int.ofNat_zero, Int.natCast_zero, Int.natCast_one, Int.ofNat_eq_natCast, Int.natCast_nonneg, beq_self_eq_true, Option.isNone_none, Option.isNone_some, Bool.not_eq_true, List.append_nil, Option.bind_some, List.lookup_cons, List.contains_nil, List.contains_cons, hc2, hw] <;> exact rfl) ?_
  refine Ev.seq (by simp only [x02, x9h, xa1, xa0, x9y, x9z, x9x, x33, x30, x2y, x2z, x32, x31, x52, x50, x4z, x51, x4y, x4w, x4x, xbh, xbm, xbi, xbf, xbg, xbe, xbj, xbl, xbk, xba, xbd, xbb, xbc, x7b, x7c, x7a, x7e, x7d, x78, x79, xb5, xb9, xb6, xb8, xb7, x00, x01, x8j, x8c, x18, x19, x1a, xb3, xb4, x0j, x0g, x0i, x0h, x8d, x8e, x8g, x8f, x82, x83, x84, xat, xar, xas, xal, xak, xap, xao, xan, xam, xeh, x07, x03, x04, x05, x06, x08, x09, x6j, x6c, x6d, x6e, x6f, x6g, x6h, x6i, x2q, x2p, x2r, x2s, xav, xaq, x77, x76, x3m, x3l, xa3, xa4, xab, xac, xad, xae, xaf, xag, xah, xai, xa5, xa6, xa7, xa8, xa9, xaa, xaj, x89, x8a, x8h, x8i, x9m, x9n, x9o, x9p, x9q, x9r, x9s, x6x, x6v, x6w, x20, x1v, x1w, x1y, x1x, x1z, x4v, x4t, x4u, x4q, x4r, x4s, x5b, x1b, x1i, x1h, x1g, x1d, x74, x75, x73, x6z, x6y, x72, x70, x71, x9e, x5k, x5l, x5m, x5n, x8x, x8y, x8z, x90, x91, x92, x93, x2v, x2t, x2u, xei, xej, xek, xel, x8w, x98, x99, xb1, xb2, xb0, xaz, x81, x80, x87, x88, x85, x86, xd1, xd0, x8t, x8s, x6r, x6n, x6p, x6o, x8b, x6k, x6l, x6m, x7z, x1c, x2b, x8v, x9f, x9v, x9w, x9u, x9t, x59, x5a, x8u, x97, x35, x34, x0o, x0a, x0b, x0d, x0c, x0e, x0p, x0q, x0r, x12, x0z, x10, x11, x5o, x5g, x9g, x9a, x9b, x9c, x9d, x0n, x0l, x0m, x36, xef, xeg, x4p, x4o, xax, xay, x53, x55, x54, xaw, xau, x3f, x3e, x3d, x3g, x8p, x8o, x8q, x8r, x7r, x7p, x7q, x7o, x7m, x7k, x7l, x7n, x7i, x7h, x7f, x7g, x14, x16, x17, x15, x13, x1f, x1e, x5j, x5h, x5i, x57, x58, x56, x27, x2a, x29, x28, x9k, x9j, x9l, x9i, x1j, x21, x22, x23, x26, x25, x24, x7v, x7w, x3n, x3h, x3i, x7j, x7s, x7t, x7u, x96, x95, x94, x5e, x5f, x5c, x3p, x3q, x3r, x3s, x3t, x3u, x3v, x3w, x3x, x4a, x4l, x49, x4b, x4c, x3j, x2o, x2j, x2d, x2i, x2m, x2n, x2c, x2h, x2g, x2f, x2e, x2k, x6s, x6u, x6t, x2x, x7y, x2w, x7x, x5u, x5r, x5q, x5v, x5s, x5p, x5t, x6a, x67, x66, x6b, x68, x65, x69, x5z, x5x, x5y, x5w, x60, x64, x63, x61, x62, xbn, xd2, xbt, xd8, xbo, xd3, xbr, xd6, xbp, xd4, xbq, xd5, xbs, xd7, xct, xe8, xcz, xee, xcu, xe9, xcx, xec, xcv, xea, xcw, xeb, xcy, xed, xbu, xd9, xc0, xdf, xbv, xda, xby, xdd, xbw, xdb, xbx, xdc, xbz, xde, xcf, xdu, xcl, xe0, xcg, xdv, xcj, xdy, xch, xdw, xci, xdx, xck, xdz, xc1, xdg, xc7, xdm, xc2, xdh, xc5, xdk, xc3, xdi, xc4, xdj, xc6, xdl, xc8, xdn, xce, xdt, xc9, xdo, xcc, xdr, xca, xdp, xcb, xdq, xcd, xds, xcm, xe1, xcs, xe7, xcn, xe2, xcq, xe5, xco, xe3, xcp, xe4, xcr, xe6, x8k, x8l, x8m, x8n, x0s, x0t, x0u, x0v, x0w, x0x, x0y, x3y, x4n, x41, x4e, x44, x4j, x47, x4g, x4m, x40, x4d, x43, x4i, x46, x4h, x3z, x42, x4f, x45, x4k, x48, x37, x3c, x38, x39, x3a, x3b, x1n, x1o, x1p, x1q, x1r, x1s, x1t, x1u, x1k, x1l, x1m, List.getElem?_cons_zero, List.getElem?_cons_succ, List.set_cons_zero, List.set_cons_succ, List.replicate, List.cons_append, List.nil_append, List.take_succ_cons, List.take_zero, List.getD_cons_zero, List.getD_cons_succ, List.map_cons, List.map_nil, if_true, if_false, Bool.true_and, Bool.and_true, Bool.false_and, Bool.and_false, Bool.true_or, Bool.or_true, Bool.false_or, Bool.or_false, Bool.not_true, Bool.not_false, reduceIte, Bool.false_eq_true, eq_self, Nat.sub_self, sc, noL, noLAll, Option.map_some, Int.toNat_natCast, Nat.reduceSub, Nat.reduceAdd, decide_true, decide_false, List.length_cons, List.length_nil, Int.reduceLT, Int.reduceLE, Int.reduceAdd, Int.reduceMul, Int.reduceSub, Int.reduceNeg, Int.reduceToNat, Int.reducePow, Int.reduceMod, Int.reduceDiv, Int.reduceEq, Nat.reducePow, Nat.reduceMul, Nat.reduceLT, Nat.reduceLeDiff, Int.ofNat_zero, Int.natCast_zero, Int.natCast_one, Int.ofNat_eq_natCast, Int.natCast_nonneg, beq_self_eq_true, Option.isNone_none, Option.isNone_some, Bool.not_eq_true, List.append_nil, Option.bind_some, List.lookup_cons, List.contains_nil, List.contains_cons, cutD_map, ← hcells, hit] <;> exact rfl) ?_
  refine Ev.seq (e1 := [.s ns, .v true (.int mx), .v true (.int many), .o false false true (sh.map dOB), .o false false true (wo.map .bool), .o false false true (its.map dItem), .v true (.int (worthOf its (leftOf sh wo))), .u, .u, .u, .u, .u, .u, .u, .u, .u, .u]) (by
    simp only [x02, x9h, xa1, xa0, x9y, x9z, x9x, x33, x30, x2y, x2z, x32, x31, x52, x50, x4z, x51, x4y, x4w, x4x, xbh, xbm, xbi, xbf, xbg, xbe, xbj, xbl, xbk, xba, xbd, xbb, xbc, x7b, x7c, x7a, x7e, x7d, x78, x79, xb5, xb9, xb6, xb8, xb7, x00, x01, x8j, x8c, x18, x19, x1a, xb3, xb4, x0j, x0g, x0i, x0h, x8d, x8e, x8g, x8f, x82, x83, x84, xat, xar, xas, xal, xak, xap, xao, xan, xam, xeh, x07, x03, x04, x05, x06, x08, x09, x6j, x6c, x6d, x6e, x6f, x6g, x6h, x6i, x2q, x2p, x2r, x2s, xav, xaq, x77, x76, x3m, x3l, xa3, xa4, xab, xac, xad, xae, xaf, xag, xah, xai, xa5, xa6, xa7, xa8, xa9, xaa, xaj, x89, x8a, x8h, x8i, x9m, x9n, x9o, x9p, x9q, x9r, x9s, x6x, x6v, x6w, x20, x1v, x1w, x1y, x1x, x1z, x4v, x4t, x4u, x4q, x4r, x4s, x5b, x1b, x1i, x1h, x1g, x1d, x74, x75, x73, x6z, x6y, x72, x70, x71, x9e, x5k, x5l, x5m, x5n, x8x, x8y, x8z, x90, x91, x92, x93, x2v, x2t, x2u, xei, xej, xek, xel, x8w, x98, x99, xb1, xb2, xb0, xaz, x81, x80, x87, x88, x85, x86, xd1, xd0, x8t, x8s, x6r, x6n, x6p, x6o, x8b, x6k, x6l, x6m, x7z, x1c, x2b, x8v, x9f, x9v, x9w, x9u, x9t, x59, x5a, x8u, x97, x35, x34, x0o, x0a, x0b, x0d, x0c, x0e, x0p, x0q, x0r, x12, x0z, x10, x11, x5o, x5g, x9g, x9a, x9b, x9c, x9d, x0n, x0l, x0m, x36, xef, xeg, x4p, x4o, xax, xay, x53, x55, x54, xaw, xau, x3f, x3e, x3d, x3g, x8p, x8o, x8q, x8r, x7r, x7p, x7q, x7o, x7m, x7k, x7l, x7n, x7i, x7h, x7f, x7g, x14, x16, x17, x15, x13, x1f, x1e, x5j, x5h, x5i, x57, x58, x56, x27, x2a, x29, x28, x9k, x9j, x9l, x9i, x1j, x21, x22, x23, x26, x25, x24, x7v, x7w, x3n, x3h, x3i, x7j, x7s, x7t, x7u, x96, x95, x94, x5e, x5f, x5c, x3p, x3q, x3r, x3s, x3t, x3u, x3v, x3w, x3x, x4a, x4l, x49, x4b, x4c, x3j, x2o, x2j, x2d, x2i, x2m, x2n, x2c, x2h, x2g, x2f, x2e, x2k, x6s, x6u, x6t, x2x, x7y, x2w, x7x, x5u, x5r, x5q, x5v, x5s, x5p, x5t, x6a, x67, x66, x6b, x68, x65, x69, x5z, x5x, x5y, x5w, x60, x64, x63, x61, x62, xbn, xd2, xbt, xd8, xbo, xd3, xbr, xd6, xbp, xd4, xbq, xd5, xbs, xd7, xct, xe8, xcz, xee, xcu, xe9, xcx, xec, xcv, xea, xcw, xeb, xcy, xed, xbu, xd9, xc0, xdf, xbv, xda, xby, xdd, xbw, xdb, xbx, xdc, xbz, xde, xcf, xdu, xcl, xe0, xcg, xdv, xcj, xdy, xch, xdw, xci, xdx, xck, xdz, xc1, xdg, xc7, xdm, xc2, xdh, xc5, xdk, xc3, xdi, xc4, xdj, xc6, xdl, xc8, xdn, xce, xdt, xc9, xdo, xcc, xdr, xca, xdp, xcb, xdq, xcd, xds, xcm, xe1, xcs, xe7, xcn, xe2, xcq, xe5, xco, xe3, xcp, xe4, xcr, xe6, x8k, x8l, x8m, x8n, x0s, x0t, x0u, x0v, x0w, x0x, x0y, x3y, x4n, x41, x4e, x44, x4j, x47, x4g, x4m, x40, x4d, x43, x4i, x46, x4h, x3z, x42, x4f, x45, x4k, x48, x37, x3c, x38, x39, x3a, x3b, x1n, x1o, x1p, x1q, x1r, x1s, x1t, x1u, x1k, x1l, x1m, List.getElem?_cons_zero, List.getElem?_cons_succ, List.set_cons_zero, List.set_cons_succ, List.replicate, List.cons_append, List.nil_append, List.take_succ_cons, List.take_zero, List.getD_cons_zero, List.getD_cons_succ, List.map_cons, List.map_nil, if_true, if_false, Bool.true_and, Bool.and_true, Bool.false_and, Bool.and_false, Bool.true_or, Bool.or_true, Bool.false_or, Bool.or_false, Bool.not_true, Bool.not_false, reduceIte, Bool.false_eq_true, eq_self, Nat.sub_self, sc, noL, noLAll, Option.map_some, Int.toNat_natCast, Nat.reduceSub, Nat.reduceAdd, decide_true, decide_false, List.length_cons, List.length_nil, Int.reduceLT, Int.reduceLE, Int.reduceAdd, Int.reduceMul, Int.reduceSub, Int.reduceNeg, Int.reduceToNat, Int.reducePow, Int.reduceMod, Int.reduceDiv, Int.reduceEq, Nat.reducePow, Nat.reduceMul, Nat.reduceLT, Nat.reduceLeDiff, Int.ofNat_zero, Int.natCast_zero, Int.natCast_one, Int.ofNat_eq_natCast, Int.natCast_nonneg, beq_self_eq_true, Option.isNone_none, Option.isNone_some, Bool.not_eq_true, List.append_nil, Option.bind_some, List.lookup_cons, List.contains_nil, List.contains_cons]
    rw [lcLoop_filter (b := true) (p := fun p : Nat × Int => (leftOf sh wo).getD p.1 false) (g := fun p => .int p.2) (h := fun p hp => by
      have hp' : p.1 < sh.length := by rw [lsh]; exact oki p hp
      have hp2 : p.1 < wo.length := by rw [lwo]; exact oki p hp
      rw [leftOf_get _ _ _ hp' hp2]
      have g := r_free sh wo p.1 hp' hp2
      show lcOne _ _ _ _ _ (dItem p) _ = _
      unfold dItem
      simp only [x02, x9h, xa1, xa0, x9y, x9z, x9x, x33, x30, x2y, x2z, x32, x31, x52, x50, x4z, x51, x4y, x4w, x4x, xbh, xbm, xbi, xbf, xbg, xbe, xbj, xbl, xbk, xba, xbd, xbb, xbc, x7b, x7c, x7a, x7e, x7d, x78, x79, xb5, xb9, xb6, xb8, xb7, x00, x01, x8j, x8c, x18, x19, x1a, xb3, xb4, x0j, x0g, x0i, x0h, x8d, x8e, x8g, x8f, x82, x83, x84, xat, xar, xas, xal, xak, xap, xao, xan, xam, xeh, x07, x03, x04, x05, x06, x08, x09, x6j, x6c, x6d, x6e, x6f, x6g, x6h, x6i, x2q, x2p, x2r, x2s, xav, xaq, x77, x76, x3m, x3l, xa3, xa4, xab, xac, xad, xae, xaf, xag, xah, xai, xa5, xa6, xa7, xa8, xa9, xaa, xaj, x89, x8a, x8h, x8i, x9m, x9n, x9o, x9p, x9q, x9r, x9s, x6x, x6v, x6w, x20, x1v, x1w, x1y, x1x, x1z, x4v, x4t, x4u, x4q, x4r, x4s, x5b, x1b, x1i, x1h, x1g, x1d, x74, x75, x73, x6z, x6y, x72, x70, x71, x9e, x5k, x5l, x5m, x5n, x8x, x8y, x8z, x90, x91, x92, x93, x2v, x2t, x2u, xei, xej, xek, xel, x8w, x98, x99, xb1, xb2, xb0, xaz, x81, x80, x87, x88, x85, x86, xd1, xd0, x8t, x8s, x6r, x6n, x6p, x6o, x8b, x6k, x6l, x6m, x7z, x1c, x2b, x8v, x9f, x9v, x9w, x9u, x9t, x59, x5a, x8u, x97, x35, x34, x0o, x0a, x0b, x0d, x0c, x0e, x0p, x0q, x0r, x12, x0z, x10, x11, x5o, x5g, x9g, x9a, x9b, x9c, x9d, x0n, x0l, x0m, x36, xef, xeg, x4p, x4o, xax, xay, x53, x55, x54, xaw, xau, x3f, x3e, x3d, x3g, x8p, x8o, x8q, x8r, x7r, x7p, x7q, x7o, x7m, x7k, x7l, x7n, x7i, x7h, x7f, x7g, x14, x16, x17, x15, x13, x1f, x1e, x5j, x5h, x5i, x57, x58, x56, x27, x2a, x29, x28, x9k, x9j, x9l, x9i, x1j, x21, x22, x23, x26, x25, x24, x7v, x7w, x3n, x3h, x3i, x7j, x7s, x7t, x7u, x96, x95, x94, x5e, x5f, x5c, x3p, x3q, x3r, x3s, x3t, x3u, x3v, x3w, x3x, x4a, x4l, x49, x4b, x4c, x3j, x2o, x2j, x2d, x2i, x2m, x2n, x2c, x2h, x2g, x2f, x2e, x2k, x6s, x6u, x6t, x2x, x7y, x2w, x7x, x5u, x5r, x5q, x5v, x5s, x5p, x5t, x6a, x67, x66, x6b, x68, x65, x69, x5z, x5x, x5y, x5w, x60, x64, x63, x61, x62, xbn, xd2, xbt, xd8, xbo, xd3, xbr, xd6, xbp, xd4, xbq, xd5, xbs, xd7, xct, xe8, xcz, xee, xcu, xe9, xcx, xec, xcv, xea, xcw, xeb, xcy, xed, xbu, xd9, xc0, xdf, xbv, xda, xby, xdd, xbw, xdb, xbx, xdc, xbz, xde, xcf, xdu, xcl, xe0, xcg, xdv, xcj, xdy, xch, xdw, xci, xdx, xck, xdz, xc1, xdg, xc7, xdm, xc2, xdh, xc5, xdk, xc3, xdi, xc4, xdj, xc6, xdl, xc8, xdn, xce, xdt, xc9, xdo, xcc, xdr, xca, xdp, xcb, xdq, xcd, xds, xcm, xe1, xcs, xe7, xcn, xe2, xcq, xe5, xco, xe3, xcp, xe4, xcr, xe6, x8k, x8l, x8m, x8n, x0s, x0t, x0u, x0v, x0w, x0x, x0y, x3y, x4n, x41, x4e, x44, x4j, x47, x4g, x4m, x40, x4d, x43, x4i, x46, x4h, x3z, x42, x4f, x45, x4k, x48, x37, x3c, x38, x39, x3a, x3b, x1n, x1o, x1p, x1q, x1r, x1s, x1t, x1u, x1k, x1l, x1m, List.getElem?_cons_zero, List.getElem?_cons_succ, List.set_cons_zero, List.set_cons_succ, List.replicate, List.cons_append, List.nil_append, List.take_succ_cons, List.take_zero, List.getD_cons_zero, List.getD_cons_succ, List.map_cons, List.map_nil, if_true, if_false, Bool.true_and, Bool.and_true, Bool.false_and, Bool.and_false, Bool.true_or, Bool.or_true, Bool.false_or, Bool.or_false, Bool.not_true, Bool.not_false, reduceIte, Bool.false_eq_true, eq_self, Nat.sub_self, sc, noL, noLAll, Option.map_some, Int.toNat_natCast, Nat.reduceSub, Nat.reduceAdd, decide_true, decide_false, List.length_cons, List.length_nil, Int.reduceLT, Int.reduceLE, Int.reduceAdd, Int.reduceMul, Int.reduceSub, Int.reduceNeg, Int.reduceToNat, Int.reducePow, Int.reduceMod, Int.reduceDiv, Int.reduceEq, Nat.reducePow, Nat.reduceMul, Nat.reduceLT, Nat.reduceLeDiff, Int.ofNat_zero, Int.natCast_zero, Int.natCast_one, Int.ofNat_eq_natCast, Int.natCast_nonneg, beq_self_eq_true, Option.isNone_none, Option.isNone_some, Bool.not_eq_true, List.append_nil, Option.bind_some, List.lookup_cons, List.contains_nil, List.contains_cons, g]
      by_cases c : (decide (sh[p.1] ≠ some false) && !wo[p.1]) = true
      · simp only [x02, x9h, xa1, xa0, x9y, x9z, x9x, x33, x30, x2y, x2z, x32, x31, x52, x50, x4z, x51, x4y, x4w, x4x, xbh, xbm, xbi, xbf, xbg, xbe, xbj, xbl, xbk, xba, xbd, xbb, xbc, x7b, x7c, x7a, x7e, x7d, x78, x79, xb5, xb9, xb6, xb8, xb7, x00, x01, x8j, x8c, x18, x19, x1a, xb3, xb4, x0j, x0g, x0i, x0h, x8d, x8e, x8g, x8f, x82, x83, x84, xat, xar, xas, xal, xak, xap, xao, xan, xam, xeh, x07, x03, x04, x05, x06, x08, x09, x6j, x6c, x6d, x6e, x6f, x6g, x6h, x6i, x2q, x2p, x2r, x2s, xav, xaq, x77, x76, x3m, x3l, xa3, xa4, xab, xac, xad, xae, xaf, xag, xah, xai, xa5, xa6, xa7, xa8, xa9, xaa, xaj, x89, x8a, x8h, x8i, x9m, x9n, x9o, x9p, x9q, x9r, x9s, x6x, x6v, x6w, x20, x1v, x1w, x1y, x1x, x1z, x4v, x4t, x4u, x4q, x4r, x4s, x5b, x1b, x1i, x1h, x1g, x1d, x74, x75, x73, x6z, x6y, x72, x70, x71, x9e, x5k, x5l, x5m, x5n, x8x, x8y, x8z, x90, x91, x92, x93, x2v, x2t, x2u, xei, xej, xek, xel, x8w, x98, x99, xb1, xb2, xb0, xaz, x81, x80, x87, x88, x85, x86, xd1, xd0, x8t, x8s, x6r, x6n, x6p, x6o, x8b, x6k, x6l, x6m, x7z, x1c, x2b, x8v, x9f, x9v, x9w, x9u, x9t, x59, x5a, x8u, x97, x35, x34, x0o, x0a, x0b, x0d, x0c, x0e, x0p, x0q, x0r, x12, x0z, x10, x11, x5o, x5g, x9g, x9a, x9b, x9c, x9d, x0n, x0l, x0m, x36, xef, xeg, x4p, x4o, xax, xay, x53, x55, x54, xaw, xau, x3f, x3e, x3d, x3g, x8p, x8o, x8q, x8r, x7r, x7p, x7q, x7o, x7m, x7k, x7l, x7n, x7i, x7h, x7f, x7g, x14, x16, x17, x15, x13, x1f, x1e, x5j, x5h, x5i, x57, x58, x56, x27, x2a, x29, x28, x9k, x9j, x9l, x9i, x1j, x21, x22, x23, x26, x25, x24, x7v, x7w, x3n, x3h, x3i, x7j, x7s, x7t, x7u, x96, x95, x94, x5e, x5f, x5c, x3p, x3q, x3r, x3s, x3t, x3u, x3v, x3w, x3x, x4a, x4l, x49, x4b, x4c, x3j, x2o, x2j, x2d, x2i, x2m, x2n, x2c, x2h, x2g, x2f, x2e, x2k, x6s, x6u, x6t, x2x, x7y, x2w, x7x, x5u, x5r, x5q, x5v, x5s, x5p, x5t, x6a, x67, x66, x6b, x68, x65, x69, x5z, x5x, x5y, x5w, x60, x64, x63, x61, x62, xbn, xd2, xbt, xd8, xbo, xd3, xbr, xd6, xbp, xd4, xbq, xd5, xbs, xd7, xct, xe8, xcz, xee, xcu, xe9, xcx, xec, xcv, xea, xcw, xeb, xcy, xed, xbu, xd9, xc0, xdf, xbv, xda, xby, xdd, xbw, xdb, xbx, xdc, xbz, xde, xcf, xdu, xcl, xe0, xcg, xdv, xcj, xdy, xch, xdw, xci, xdx, xck, xdz, xc1, xdg, xc7, xdm, xc2, xdh, xc5, xdk, xc3, xdi, xc4, xdj, xc6, xdl, xc8, xdn, xce, xdt, xc9, xdo, xcc, xdr, xca, xdp, xcb, xdq, xcd, xds, xcm, xe1, xcs, xe7, xcn, xe2, xcq, xe5, xco, xe3, xcp, xe4, xcr, xe6, x8k, x8l, x8m, x8n, x0s, x0t, x0u, x0v, x0w, x0x, x0y, x3y, x4n, x41, x4e, x44, x4j, x47, x4g, x4m, x40, x4d, x43, x4i, x46, x4h, x3z, x42, x4f, x45, x4k, x48, x37, x3c, x38, x39, x3a, x3b, x1n, x1o, x1p, x1q, x1r, x1s, x1t, x1u, x1k, x1l, x1m, List.getElem?_cons_zero, List.getElem?_cons_succ, List.set_cons_zero, List.set_cons_succ, List.replicate, List.cons_append, List.nil_append, List.take_succ_cons, List.take_zero, List.getD_cons_zero, List.getD_cons_succ, List.map_cons, List.map_nil, if_true, if_false, Bool.true_and, Bool.and_true, Bool.false_and, Bool.and_false, Bool.true_or, Bool.or_true, Bool.false_or, Bool.or_false, Bool.not_true, Bool.not_false, reduceIte, Bool.false_eq_true, eq_self, Nat.sub_self, sc, noL, noLAll, Option.map_some, Int.toNat_natCast, Nat.reduceSub, Nat.reduceAdd, decide_true, decide_false, List.length_cons, List.length_nil, Int.reduceLT, Int.reduceLE, Int.reduceAdd, Int.reduceMul, Int.reduceSub, Int.reduceNeg, Int.reduceToNat, Int.reducePow, Int.reduceMod, Int.reduceDiv, Int.reduceEq, Nat.reducePow, Nat.reduceMul, Nat.reduceLT, Nat.reduceLeDiff, Int.ofNat_zero, Int.natCast_zero, Int.natCast_one, Int.ofNat_eq_natCast, Int.natCast_nonneg, beq_self_eq_true, Option.isNone_none, Option.isNone_some, Bool.not_eq_true, List.append_nil, Option.bind_some, List.lookup_cons, List.contains_nil, List.contains_cons, c]
      · rw [Bool.not_eq_true] at c; simp only [x02, x9h, xa1, xa0, x9y, x9z, x9x, x33, x30, x2y, x2z, x32, x31, x52, x50, x4z, x51, x4y, x4w, x4x, xbh, xbm, xbi, xbf, xbg, xbe, xbj, xbl, xbk, xba, xbd, xbb, xbc, x7b, x7c, x7a, x7e, x7d, x78, x79, xb5, xb9, xb6, xb8, xb7, x00, x01, x8j, x8c, x18, x19, x1a, xb3, xb4, x0j, x0g, x0i, x0h, x8d, x8e, x8g, x8f, x82, x83, x84, xat, xar, xas, xal, xak, xap, xao, xan, xam, xeh, x07, x03, x04, x05, x06, x08, x09, x6j, x6c, x6d, x6e, x6f, x6g, x6h, x6i, x2q, x2p, x2r, x2s, xav, xaq, x77, x76, x3m, x3l, xa3, xa4, xab, xac, xad, xae, xaf, xag, xah, xai, xa5, xa6, xa7, xa8, xa9, xaa, xaj, x89, x8a, x8h, x8i, x9m, x9n, x9o, x9p, x9q, x9r, x9s, x6x, x6v, x6w, x20, x1v, x1w, x1y, x1x, x1z, x4v, x4t, x4u, x4q, x4r, x4s, x5b, x1b, x1i, x1h, x1g, x1d, x74, x75, x73, x6z, x6y, x72, x70, x71, x9e, x5k, x5l, x5m, x5n, x8x, x8y, x8z, x90, x91, x92, x93, x2v, x2t, x2u, xei, xej, xek, xel, x8w, x98, x99, xb1, xb2, xb0, xaz, x81, x80, x87, x88, x85, x86, xd1, xd0, x8t, x8s, x6r, x6n, x6p, x6o, x8b, x6k, x6l, x6m, x7z, x1c, x2b, x8v, x9f, x9v, x9w, x9u, x9t, x59, x5a, x8u, x97, x35, x34, x0o, x0a, x0b, x0d, x0c, x0e, x0p, x0q, x0r, x12, x0z, x10, x11, x5o, x5g, x9g, x9a, x9b, x9c, x9d, x0n, x0l, x0m, x36, xef, xeg, x4p, x4o, xax, xay, x53, x55, x54, xaw, xau, x3f, x3e, x3d, x3g, x8p, x8o, x8q, x8r, x7r, x7p, x7q, x7o, x7m, x7k, x7l, x7n, x7i, x7h, x7f, x7g, x14, x16, x17, x15, x13, x1f, x1e, x5j, x5h, x5i, x57, x58, x56, x27, x2a, x29, x28, x9k, x9j, x9l, x9i, x1j, x21, x22, x23, x26, x25, x24, x7v, x7w, x3n, x3h, x3i, x7j, x7s, x7t, x7u, x96, x95, x94, x5e, x5f, x5c, x3p, x3q, x3r, x3s, x3t, x3u, x3v, x3w, x3x, x4a, x4l, x49, x4b, x4c, x3j, x2o, x2j, x2d, x2i, x2m, x2n, x2c, x2h, x2g, x2f, x2e, x2k, x6s, x6u, x6t, x2x, x7y, x2w, x7x, x5u, x5r, x5q, x5v, x5s, x5p, x5t, x6a, x67, x66, x6b, x68, x65, x69, x5z, x5x, x5y, x5w, x60, x64, x63, x61, x62, xbn, xd2, xbt, xd8, xbo, xd3, xbr, xd6, xbp, xd4, xbq, xd5, xbs, xd7, xct, xe8, xcz, xee, xcu, xe9, xcx, xec, xcv, xea, xcw, xeb, xcy, xed, xbu, xd9, xc0, xdf, xbv, xda, xby, xdd, xbw, xdb, xbx, xdc, xbz, xde, xcf, xdu, xcl, xe0, xcg, xdv, xcj, xdy, xch, xdw, xci, xdx, xck, xdz, xc1, xdg, xc7, xdm, xc2, xdh, xc5, xdk, xc3, xdi, xc4, xdj, xc6, xdl, xc8, xdn, xce, xdt, xc9, xdo, xcc, xdr, xca, xdp, xcb, xdq, xcd, xds, xcm, xe1, xcs, xe7, xcn, xe2, xcq, xe5, xco, xe3, xcp, xe4, xcr, xe6, x8k, x8l, x8m, x8n, x0s, x0t, x0u, x0v, x0w, x0x, x0y, x3y, x4n, x41, x4e, x44, x4j, x47, x4g, x4m, x40, x4d, x43, x4i, x46, x4h, x3z, x42, x4f, x45, x4k, x48, x37, x3c, x38, x39, x3a, x3b, x1n, x1o, x1p, x1q, x1r, x1s, x1t, x1u, x1k, x1l, x1m, List.getElem?_cons_zero, List.getElem?_cons_succ, List.set_cons_zero, List.set_cons_succ, List.replicate, List.cons_append, List.nil_append, List.take_succ_cons, List.take_zero, List.getD_cons_zero, List.getD_cons_succ, List.map_cons, List.map_nil, if_true, if_false, Bool.true_and, Bool.and_true, Bool.false_and, Bool.and_false, Bool.true_or, Bool.or_true, Bool.false_or, Bool.or_false, Bool.not_true, Bool.not_false, reduceIte, Bool.false_eq_true, eq_self, Nat.sub_self, sc, noL, noLAll, Option.map_some, Int.toNat_natCast, Nat.reduceSub, Nat.reduceAdd, decide_true, decide_false, List.length_cons, List.length_nil, Int.reduceLT, Int.reduceLE, Int.reduceAdd, Int.reduceMul, Int.reduceSub, Int.reduceNeg, Int.reduceToNat, Int.reducePow, Int.reduceMod, Int.reduceDiv, Int.reduceEq, Nat.reducePow, Nat.reduceMul, Nat.reduceLT, Nat.reduceLeDiff, Int.ofNat_zero, Int.natCast_zero, Int.natCast_one, Int.ofNat_eq_natCast, Int.natCast_nonneg, beq_self_eq_true, Option.isNone_none, Option.isNone_some, Bool.not_eq_true, List.append_nil, Option.bind_some, List.lookup_cons, List.contains_nil, List.contains_cons, c])]
    simp only [x02, x9h, xa1, xa0, x9y, x9z, x9x, x33, x30, x2y, x2z, x32, x31, x52, x50, x4z, x51, x4y, x4w, x4x, xbh, xbm, xbi, xbf, xbg, xbe, xbj, xbl, xbk, xba, xbd, xbb, xbc, x7b, x7c, x7a, x7e, x7d, x78, x79, xb5, xb9, xb6, xb8, xb7, x00, x01, x8j, x8c, x18, x19, x1a, xb3, xb4, x0j, x0g, x0i, x0h, x8d, x8e, x8g, x8f, x82, x83, x84, xat, xar, xas, xal, xak, xap, xao, xan, xam, xeh, x07, x03, x04, x05, x06, x08, x09, x6j, x6c, x6d, x6e, x6f, x6g, x6h, x6i, x2q, x2p, x2r, x2s, xav, xaq, x77, x76, x3m, x3l, xa3, xa4, xab, xac, xad, xae, xaf, xag, xah, xai, xa5, xa6, xa7, xa8, xa9, xaa, xaj, x89, x8a, x8h, x8i, x9m, x9n, x9o, x9p, x9q, x9r, x9s, x6x, x6v, x6w, x20, x1v, x1w, x1y, x1x, x1z, x4v, x4t, x4u, x4q, x4r, x4s, x5b, x1b, x1i, x1h, x1g, x1d, x74, x75, x73, x6z, x6y, x72, x70, x71, x9e, x5k, x5l, x5m, x5n, x8x, x8y, x8z, x90, x91, x92, x93, x2v, x2t, x2u, xei, xej, xek, xel, x8w, x98, x99, xb1, xb2, xb0, xaz, x81, x80, x87, x88, x85, x86, xd1, xd0, x8t, x8s, x6r, x6n, x6p, x6o, x8b, x6k, x6l, x6m, x7z, x1c, x2b, x8v, x9f, x9v, x9w, x9u, x9t, x59, x5a, x8u, x97, x35, x34, x0o, x0a, x0b, x0d, x0c, x0e, x0p, x0q, x0r, x12, x0z, x10, x11, x5o, x5g, x9g, x9a, x9b, x9c, x9d, x0n, x0l, x0m, x36, xef, xeg, x4p, x4o, xax, xay, x53, x55, x54, xaw, xau, x3f, x3e, x3d, x3g, x8p, x8o, x8q, x8r, x7r, x7p, x7q, x7o, x7m, x7k, x7l, x7n, x7i, x7h, x7f, x7g, x14, x16, x17, x15, x13, x1f, x1e, x5j, x5h, x5i, x57, x58, x56, x27, x2a, x29, x28, x9k, x9j, x9l, x9i, x1j, x21, x22, x23, x26, x25, x24, x7v, x7w, x3n, x3h, x3i, x7j, x7s, x7t, x7u, x96, x95, x94, x5e, x5f, x5c, x3p, x3q, x3r, x3s, x3t, x3u, x3v, x3w, x3x, x4a, x4l, x49, x4b, x4c, x3j, x2o, x2j, x2d, x2i, x2m, x2n, x2c, x2h, x2g, x2f, x2e, x2k, x6s, x6u, x6t, x2x, x7y, x2w, x7x, x5u, x5r, x5q, x5v, x5s, x5p, x5t, x6a, x67, x66, x6b, x68, x65, x69, x5z, x5x, x5y, x5w, x60, x64, x63, x61, x62, xbn, xd2, xbt, xd8, xbo, xd3, xbr, xd6, xbp, xd4, xbq, xd5, xbs, xd7, xct, xe8, xcz, xee, xcu, xe9, xcx, xec, xcv, xea, xcw, xeb, xcy, xed, xbu, xd9, xc0, xdf, xbv, xda, xby, xdd, xbw, xdb, xbx, xdc, xbz, xde, xcf, xdu, xcl, xe0, xcg, xdv, xcj, xdy, xch, xdw, xci, xdx, xck, xdz, xc1, xdg, xc7, xdm, xc2, xdh, xc5, xdk, xc3, xdi, xc4, xdj, xc6, xdl, xc8, xdn, xce, xdt, xc9, xdo, xcc, xdr, xca, xdp, xcb, xdq, xcd, xds, xcm, xe1, xcs, xe7, xcn, xe2, xcq, xe5, xco, xe3, xcp, xe4, xcr, xe6, x8k, x8l, x8m, x8n, x0s, x0t, x0u, x0v, x0w, x0x, x0y, x3y, x4n, x41, x4e, x44, x4j, x47, x4g, x4m, x40, x4d, x43, x4i, x46, x4h, x3z, x42, x4f, x45, x4k, x48, x37, x3c, x38, x39, x3a, x3b, x1n, x1o, x1p, x1q, x1r, x1s, x1t, x1u, x1k, x1l, x1m, List.getElem?_cons_zero, List.getElem?_cons_succ, List.set_cons_zero, List.set_cons_succ, List.replicate, List.cons_append, List.nil_append, List.take_succ_cons, List.take_zero, List.getD_cons_zero, List.getD_cons_succ, List.map_cons, List.map_nil, if_true, if_false, Bool.true_and, Bool.and_true, Bool.false_and, Bool.and_false, Bool.true_or, Bool.or_true, Bool.false_or, Bool.or_false, Bool.not_true, Bool.not_false, reduceIte, Bool.false_eq_true, eq_self, Nat.sub_self, sc, noL, noLAll, Option.map_some, Int.toNat_natCast, Nat.reduceSub, Nat.reduceAdd, decide_true, decide_false, List.length_cons, List.length_nil, Int.reduceLT, Int.reduceLE, Int.reduceAdd, Int.reduceMul, Int.reduceSub, Int.reduceNeg, Int.reduceToNat, Int.reducePow, Int.reduceMod, Int.reduceDiv, Int.reduceEq, Nat.reducePow, Nat.reduceMul, Nat.reduceLT, Nat.reduceLeDiff, Int.ofNat_zero, Int.natCast_zero, Int.natCast_one, Int.ofNat_eq_natCast, Int.natCast_nonneg, beq_self_eq_true, Option.isNone_none, Option.isNone_some, Bool.not_eq_true, List.append_nil, Option.bind_some, List.lookup_cons, List.contains_nil, List.contains_cons, map_snd]
    rw [worth_map its _ (leftOf sh wo) (fun p hq => rfl)]
    simp only [x02, x9h, xa1, xa0, x9y, x9z, x9x, x33, x30, x2y, x2z, x32, x31, x52, x50, x4z, x51, x4y, x4w, x4x, xbh, xbm, xbi, xbf, xbg, xbe, xbj, xbl, xbk, xba, xbd, xbb, xbc, x7b, x7c, x7a, x7e, x7d, x78, x79, xb5, xb9, xb6, xb8, xb7, x00, x01, x8j, x8c, x18, x19, x1a, xb3, xb4, x0j, x0g, x0i, x0h, x8d, x8e, x8g, x8f, x82, x83, x84, xat, xar, xas, xal, xak, xap, xao, xan, xam, xeh, x07, x03, x04, x05, x06, x08, x09, x6j, x6c, x6d, x6e, x6f, x6g, x6h, x6i, x2q, x2p, x2r, x2s, xav, xaq, x77, x76, x3m, x3l, xa3, xa4, xab, xac, xad, xae, xaf, xag, xah, xai, xa5, xa6, xa7, xa8, xa9, xaa, xaj, x89, x8a, x8h, x8i, x9m, x9n, x9o, x9p, x9q, x9r, x9s, x6x, x6v, x6w, x20, x1v, x1w, x1y, x1x, x1z, x4v, x4t, x4u, x4q, x4r, x4s, x5b, x1b, x1i, x1h, x1g, x1d, x74, x75, x73, x6z, x6y, x72, x70, x71, x9e, x5k, x5l, x5m, x5n, x8x, x8y, x8z, x90, x91, x92, x93, x2v, x2t, x2u, xei, xej, xek, xel, x8w, x98, x99, xb1, xb2, xb0, xaz, x81, x80, x87, x88, x85, x86, xd1, xd0, x8t, x8s, x6r, x6n, x6p, x6o, x8b, x6k, x6l, x6m, x7z, x1c, x2b, x8v, x9f, x9v, x9w, x9u, x9t, x59, x5a, x8u, x97, x35, x34, x0o, x0a, x0b, x0d, x0c, x0e, x0p, x0q, x0r, x12, x0z, x10, x11, x5o, x5g, x9g, x9a, x9b, x9c, x9d, x0n, x0l, x0m, x36, xef, xeg, x4p, x4o, xax, xay, x53, x55, x54, xaw, xau, x3f, x3e, x3d, x3g, x8p, x8o, x8q, x8r, x7r, x7p, x7q, x7o, x7m, x7k, x7l, x7n, x7i, x7h, x7f, x7g, x14, x16, x17, x15, x13, x1f, x1e, x5j, x5h, x5i, x57, x58, x56, x27, x2a, x29, x28, x9k, x9j, x9l, x9i, x1j, x21, x22, x23, x26, x25, x24, x7v, x7w, x3n, x3h, x3i, x7j, x7s, x7t, x7u, x96, x95, x94, x5e, x5f, x5c, x3p, x3q, x3r, x3s, x3t, x3u, x3v, x3w, x3x, x4a, x4l, x49, x4b, x4c, x3j, x2o, x2j, x2d, x2i, x2m, x2n, x2c, x2h, x2g, x2f, x2e, x2k, x6s, x6u, x6t, x2x, x7y, x2w, x7x, x5u, x5r, x5q, x5v, x5s, x5p, x5t, x6a, x67, x66, x6b, x68, x65, x69, x5z, x5x, x5y, x5w, x60, x64, x63, x61, x62, xbn, xd2, xbt, xd8, xbo, xd3, xbr, xd6, xbp, xd4, xbq, xd5, xbs, xd7, xct, xe8, xcz, xee, xcu, xe9, xcx, xec, xcv, xea, xcw, xeb, xcy, xed, xbu, xd9, xc0, xdf, xbv, xda, xby, xdd, xbw, xdb, xbx, xdc, xbz, xde, xcf, xdu, xcl, xe0, xcg, xdv, xcj, xdy, xch, xdw, xci, xdx, xck, xdz, xc1, xdg, xc7, xdm, xc2, xdh, xc5, xdk, xc3, xdi, xc4, xdj, xc6, xdl, xc8, xdn, xce, xdt, xc9, xdo, xcc, xdr, xca, xdp, xcb, xdq, xcd, xds, xcm, xe1, xcs, xe7, xcn, xe2, xcq, xe5, xco, xe3, xcp, xe4, xcr, xe6, x8k, x8l, x8m, x8n, x0s, x0t, x0u, x0v, x0w, x0x, x0y, x3y, x4n, x41, x4e, x44, x4j, x47, x4g, x4m, x40, x4d, x43, x4i, x46, x4h, x3z, x42, x4f, x45, x4k, x48, x37, x3c, x38, x39, x3a, x3b, x1n, x1o, x1p, x1q, x1r, x1s, x1t, x1u, x1k, x1l, x1m, List.getElem?_cons_zero, List.getElem?_cons_succ, List.set_cons_zero, List.set_cons_succ, List.replicate, List.cons_append, List.nil_append, List.take_succ_cons, List.take_zero, List.getD_cons_zero, List.getD_cons_succ, List.map_cons, List.map_nil, if_true, if_false, Bool.true_and, Bool.and_true, Bool.false_and, Bool.and_false, Bool.true_or, Bool.or_true, Bool.false_or, Bool.or_false, Bool.not_true, Bool.not_false, reduceIte, Bool.false_eq_true, eq_self, Nat.sub_self, sc, noL, noLAll, Option.map_some, Int.toNat_natCast, Nat.reduceSub, Nat.reduceAdd, decide_true, decide_false, List.length_cons, List.length_nil, Int.reduceLT, Int.reduceLE, Int.reduceAdd, Int.reduceMul, Int.reduceSub, Int.reduceNeg, Int.reduceToNat, Int.reducePow, Int.reduceMod, Int.reduceDiv, Int.reduceEq, Nat.reducePow, Nat.reduceMul, Nat.reduceLT, Nat.reduceLeDiff, Int.ofNat_zero, Int.natCast_zero, Int.natCast_one, Int.ofNat_eq_natCast, Int.natCast_nonneg, beq_self_eq_true, Option.isNone_none, Option.isNone_some, Bool.not_eq_true, List.append_nil, Option.bind_some, List.lookup_cons, List.contains_nil, List.contains_cons, xa2]
    rfl) ?_
  refine Ev.seq (e1 := [.s ns, .v true (.int mx), .v true (.int many), .o false false true (sh.map dOB), .o false false true (wo.map .bool), .o false false true (its.map dItem), .v true (.int (worthOf its (leftOf sh wo))), .v true (.int (worthOf its (insOf sh))), .u, .u, .u, .u, .u, .u, .u, .u, .u]) (by
    simp only [x02, x9h, xa1, xa0, x9y, x9z, x9x, x33, x30, x2y, x2z, x32, x31, x52, x50, x4z, x51, x4y, x4w, x4x, xbh, xbm, xbi, xbf, xbg, xbe, xbj, xbl, xbk, xba, xbd, xbb, xbc, x7b, x7c, x7a, x7e, x7d, x78, x79, xb5, xb9, xb6, xb8, xb7, x00, x01, x8j, x8c, x18, x19, x1a, xb3, xb4, x0j, x0g, x0i, x0h, x8d, x8e, x8g, x8f, x82, x83, x84, xat, xar, xas, xal, xak, xap, xao, xan, xam, xeh, x07, x03, x04, x05, x06, x08, x09, x6j, x6c, x6d, x6e, x6f, x6g, x6h, x6i, x2q, x2p, x2r, x2s, xav, xaq, x77, x76, x3m, x3l, xa3, xa4, xab, xac, xad, xae, xaf, xag, xah, xai, xa5, xa6, xa7, xa8, xa9, xaa, xaj, x89, x8a, x8h, x8i, x9m, x9n, x9o, x9p, x9q, x9r, x9s, x6x, x6v, x6w, x20, x1v, x1w, x1y, x1x, x1z, x4v, x4t, x4u, x4q, x4r, x4s, x5b, x1b, x1i, x1h, x1g, x1d, x74, x75, x73, x6z, x6y, x72, x70, x71, x9e, x5k, x5l, x5m, x5n, x8x, x8y, x8z, x90, x91, x92, x93, x2v, x2t, x2u, xei, xej, xek, xel, x8w, x98, x99, xb1, xb2, xb0, xaz, x81, x80, x87, x88, x85, x86, xd1, xd0, x8t, x8s, x6r, x6n, x6p, x6o, x8b, x6k, x6l, x6m, x7z, x1c, x2b, x8v, x9f, x9v, x9w, x9u, x9t, x59, x5a, x8u, x97, x35, x34, x0o, x0a, x0b, x0d, x0c, x0e, x0p, x0q, x0r, x12, x0z, x10, x11, x5o, x5g, x9g, x9a, x9b, x9c, x9d, x0n, x0l, x0m, x36, xef, xeg, x4p, x4o, xax, xay, x53, x55, x54, xaw, xau, x3f, x3e, x3d, x3g, x8p, x8o, x8q, x8r, x7r, x7p, x7q, x7o, x7m, x7k, x7l, x7n, x7i, x7h, x7f, x7g, x14, x16, x17, x15, x13, x1f, x1e, x5j, x5h, x5i, x57, x58, x56, x27, x2a, x29, x28, x9k, x9j, x9l, x9i, x1j, x21, x22, x23, x26, x25, x24, x7v, x7w, x3n, x3h, x3i, x7j, x7s, x7t, x7u, x96, x95, x94, x5e, x5f, x5c, x3p, x3q, x3r, x3s, x3t, x3u, x3v, x3w, x3x, x4a, x4l, x49, x4b, x4c, x3j, x2o, x2j, x2d, x2i, x2m, x2n, x2c, x2h, x2g, x2f, x2e, x2k, x6s, x6u, x6t, x2x, x7y, x2w, x7x, x5u, x5r, x5q, x5v, x5s, x5p, x5t, x6a, x67, x66, x6b, x68, x65, x69, x5z, x5x, x5y, x5w, x60, x64, x63, x61, x62, xbn, xd2, xbt, xd8, xbo, xd3, xbr, xd6, xbp, xd4, xbq, xd5, xbs, xd7, xct, xe8, xcz, xee, xcu, xe9, xcx, xec, xcv, xea, xcw, xeb, xcy, xed, xbu, xd9, xc0, xdf, xbv, xda, xby, xdd, xbw, xdb, xbx, xdc, xbz, xde, xcf, xdu, xcl, xe0, xcg, xdv, xcj, xdy, xch, xdw, xci, xdx, xck, xdz, xc1, xdg, xc7, xdm, xc2, xdh, xc5, xdk, xc3, xdi, xc4, xdj, xc6, xdl, xc8, xdn, xce, xdt, xc9, xdo, xcc, xdr, xca, xdp, xcb, xdq, xcd, xds, xcm, xe1, xcs, xe7, xcn, xe2, xcq, xe5, xco, xe3, xcp, xe4, xcr, xe6, x8k, x8l, x8m, x8n, x0s, x0t, x0u, x0v, x0w, x0x, x0y, x3y, x4n, x41, x4e, x44, x4j, x47, x4g, x4m, x40, x4d, x43, x4i, x46, x4h, x3z, x42, x4f, x45, x4k, x48, x37, x3c, x38, x39, x3a, x3b, x1n, x1o, x1p, x1q, x1r, x1s, x1t, x1u, x1k, x1l, x1m, List.getElem?_cons_zero, List.getElem?_cons_succ, List.set_cons_zero, List.set_cons_succ, List.replicate, List.cons_append, List.nil_append, List.take_succ_cons, List.take_zero, List.getD_cons_zero, List.getD_cons_succ, List.map_cons, List.map_nil, if_true, if_false, Bool.true_and, Bool.and_true, Bool.false_and, Bool.and_false, Bool.true_or, Bool.or_true, Bool.false_or, Bool.or_false, Bool.not_true, Bool.not_false, reduceIte, Bool.false_eq_true, eq_self, Nat.sub_self, sc, noL, noLAll, Option.map_some, Int.toNat_natCast, Nat.reduceSub, Nat.reduceAdd, decide_true, decide_false, List.length_cons, List.length_nil, Int.reduceLT, Int.reduceLE, Int.reduceAdd, Int.reduceMul, Int.reduceSub, Int.reduceNeg, Int.reduceToNat, Int.reducePow, Int.reduceMod, Int.reduceDiv, Int.reduceEq, Nat.reducePow, Nat.reduceMul, Nat.reduceLT, Nat.reduceLeDiff, Int.ofNat_zero, Int.natCast_zero, Int.natCast_one, Int.ofNat_eq_natCast, Int.natCast_nonneg, beq_self_eq_true, Option.isNone_none, Option.isNone_some, Bool.not_eq_true, List.append_nil, Option.bind_some, List.lookup_cons, List.contains_nil, List.contains_cons]
    rw [lcLoop_filter (b := true) (p := fun p : Nat × Int => decide (sh.getD p.1 none = some true)) (g := fun p => .int p.2) (h := fun p hp => by
      have hp' : p.1 < sh.length := by rw [lsh]; exact oki p hp
      rw [getD_ob _ _ hp']
      show lcOne _ _ _ _ _ (dItem p) _ = _
      unfold dItem
      simp only [x02, x9h, xa1, xa0, x9y, x9z, x9x, x33, x30, x2y, x2z, x32, x31, x52, x50, x4z, x51, x4y, x4w, x4x, xbh, xbm, xbi, xbf, xbg, xbe, xbj, xbl, xbk, xba, xbd, xbb, xbc, x7b, x7c, x7a, x7e, x7d, x78, x79, xb5, xb9, xb6, xb8, xb7, x00, x01, x8j, x8c, x18, x19, x1a, xb3, xb4, x0j, x0g, x0i, x0h, x8d, x8e, x8g, x8f, x82, x83, x84, xat, xar, xas, xal, xak, xap, xao, xan, xam, xeh, x07, x03, x04, x05, x06, x08, x09, x6j, x6c, x6d, x6e, x6f, x6g, x6h, x6i, x2q, x2p, x2r, x2s, xav, xaq, x77, x76, x3m, x3l, xa3, xa4, xab, xac, xad, xae, xaf, xag, xah, xai, xa5, xa6, xa7, xa8, xa9, xaa, xaj, x89, x8a, x8h, x8i, x9m, x9n, x9o, x9p, x9q, x9r, x9s, x6x, x6v, x6w, x20, x1v, x1w, x1y, x1x, x1z, x4v, x4t, x4u, x4q, x4r, x4s, x5b, x1b, x1i, x1h, x1g, x1d, x74, x75, x73, x6z, x6y, x72, x70, x71, x9e, x5k, x5l, x5m, x5n, x8x, x8y, x8z, x90, x91, x92, x93, x2v, x2t, x2u, xei, xej, xek, xel, x8w, x98, x99, xb1, xb2, xb0, xaz, x81, x80, x87, x88, x85, x86, xd1, xd0, x8t, x8s, x6r, x6n, x6p, x6o, x8b, x6k, x6l, x6m, x7z, x1c, x2b, x8v, x9f, x9v, x9w, x9u, x9t, x59, x5a, x8u, x97, x35, x34, x0o, x0a, x0b, x0d, x0c, x0e, x0p, x0q, x0r, x12, x0z, x10, x11, x5o, x5g, x9g, x9a, x9b, x9c, x9d, x0n, x0l, x0m, x36, xef, xeg, x4p, x4o, xax, xay, x53, x55, x54, xaw, xau, x3f, x3e, x3d, x3g, x8p, x8o, x8q, x8r, x7r, x7p, x7q, x7o, x7m, x7k, x7l, x7n, x7i, x7h, x7f, x7g, x14, x16, x17, x15, x13, x1f, x1e, x5j, x5h, x5i, x57, x58, x56, x27, x2a, x29, x28, x9k, x9j, x9l, x9i, x1j, x21, x22, x23, x26, x25, x24, x7v, x7w, x3n, x3h, x3i, x7j, x7s, x7t, x7u, x96, x95, x94, x5e, x5f, x5c, x3p, x3q, x3r, x3s, x3t, x3u, x3v, x3w, x3x, x4a, x4l, x49, x4b, x4c, x3j, x2o, x2j, x2d, x2i, x2m, x2n, x2c, x2h, x2g, x2f, x2e, x2k, x6s, x6u, x6t, x2x, x7y, x2w, x7x, x5u, x5r, x5q, x5v, x5s, x5p, x5t, x6a, x67, x66, x6b, x68, x65, x69, x5z, x5x, x5y, x5w, x60, x64, x63, x61, x62, xbn, xd2, xbt, xd8, xbo, xd3, xbr, xd6, xbp, xd4, xbq, xd5, xbs, xd7, xct, xe8, xcz, xee, xcu, xe9, xcx, xec, xcv, xea, xcw, xeb, xcy, xed, xbu, xd9, xc0, xdf, xbv, xda, xby, xdd, xbw, xdb, xbx, xdc, xbz, xde, xcf, xdu, xcl, xe0, xcg, xdv, xcj, xdy, xch, xdw, xci, xdx, xck, xdz, xc1, xdg, xc7, xdm, xc2, xdh, xc5, xdk, xc3, xdi, xc4, xdj, xc6, xdl, xc8, xdn, xce, xdt, xc9, xdo, xcc, xdr, xca, xdp, xcb, xdq, xcd, xds, xcm, xe1, xcs, xe7, xcn, xe2, xcq, xe5, xco, xe3, xcp, xe4, xcr, xe6, x8k, x8l, x8m, x8n, x0s, x0t, x0u, x0v, x0w, x0x, x0y, x3y, x4n, x41, x4e, x44, x4j, x47, x4g, x4m, x40, x4d, x43, x4i, x46, x4h, x3z, x42, x4f, x45, x4k, x48, x37, x3c, x38, x39, x3a, x3b, x1n, x1o, x1p, x1q, x1r, x1s, x1t, x1u, x1k, x1l, x1m, List.getElem?_cons_zero, List.getElem?_cons_succ, List.set_cons_zero, List.set_cons_succ, List.replicate, List.cons_append, List.nil_append, List.take_succ_cons, List.take_zero, List.getD_cons_zero, List.getD_cons_succ, List.map_cons, List.map_nil, if_true, if_false, Bool.true_and, Bool.and_true, Bool.false_and, Bool.and_false, Bool.true_or, Bool.or_true, Bool.false_or, Bool.or_false, Bool.not_true, Bool.not_false, reduceIte, Bool.false_eq_true, eq_self, Nat.sub_self, sc, noL, noLAll, Option.map_some, Int.toNat_natCast, Nat.reduceSub, Nat.reduceAdd, decide_true, decide_false, List.length_cons, List.length_nil, Int.reduceLT, Int.reduceLE, Int.reduceAdd, Int.reduceMul, Int.reduceSub, Int.reduceNeg, Int.reduceToNat, Int.reducePow, Int.reduceMod, Int.reduceDiv, Int.reduceEq, Nat.reducePow, Nat.reduceMul, Nat.reduceLT, Nat.reduceLeDiff, Int.ofNat_zero, Int.natCast_zero, Int.natCast_one, Int.ofNat_eq_natCast, Int.natCast_nonneg, beq_self_eq_true, Option.isNone_none, Option.isNone_some, Bool.not_eq_true, List.append_nil, Option.bind_some, List.lookup_cons, List.contains_nil, List.contains_cons, atI_map _ _ _ hp', is_ob]
      by_cases c : sh[p.1] = some true <;> simp only [x02, x9h, xa1, xa0, x9y, x9z, x9x, x33, x30, x2y, x2z, x32, x31, x52, x50, x4z, x51, x4y, x4w, x4x, xbh, xbm, xbi, xbf, xbg, xbe, xbj, xbl, xbk, xba, xbd, xbb, xbc, x7b, x7c, x7a, x7e, x7d, x78, x79, xb5, xb9, xb6, xb8, xb7, x00, x01, x8j, x8c, x18, x19, x1a, xb3, xb4, x0j, x0g, x0i, x0h, x8d, x8e, x8g, x8f, x82, x83, x84, xat, xar, xas, xal, xak, xap, xao, xan, xam, xeh, x07, x03, x04, x05, x06, x08, x09, x6j, x6c, x6d, x6e, x6f, x6g, x6h, x6i, x2q, x2p, x2r, x2s, xav, xaq, x77, x76, x3m, x3l, xa3, xa4, xab, xac, xad, xae, xaf, xag, xah, xai, xa5, xa6, xa7, xa8, xa9, xaa, xaj, x89, x8a, x8h, x8i, x9m, x9n, x9o, x9p, x9q, x9r, x9s, x6x, x6v, x6w, x20, x1v, x1w, x1y, x1x, x1z, x4v, x4t, x4u, x4q, x4r, x4s, x5b, x1b, x1i, x1h, x1g, x1d, x74, x75, x73, x6z, x6y, x72, x70, x71, x9e, x5k, x5l, x5m, x5n, x8x, x8y, x8z, x90, x91, x92, x93, x2v, x2t, x2u, xei, xej, xek, xel, x8w, x98, x99, xb1, xb2, xb0, xaz, x81, x80, x87, x88, x85, x86, xd1, xd0, x8t, x8s, x6r, x6n, x6p, x6o, x8b, x6k, x6l, x6m, x7z, x1c, x2b, x8v, x9f, x9v, x9w, x9u, x9t, x59, x5a, x8u, x97, x35, x34, x0o, x0a, x0b, x0d, x0c, x0e, x0p, x0q, x0r, x12, x0z, x10, x11, x5o, x5g, x9g, x9a, x9b, x9c, x9d, x0n, x0l, x0m, x36, xef, xeg, x4p, x4o, xax, xay, x53, x55, x54, xaw, xau, x3f, x3e, x3d, x3g, x8p, x8o, x8q, x8r, x7r, x7p, x7q, x7o, x7m, x7k, x7l, x7n, x7i, x7h, x7f, x7g, x14, x16, x17, x15, x13, x1f, x1e, x5j, x5h, x5i, x57, x58, x56, x27, x2a, x29, x28, x9k, x9j, x9l, x9i, x1j, x21, x22, x23, x26, x25, x24, x7v, x7w, x3n, x3h, x3i, x7j, x7s, x7t, x7u, x96, x95, x94, x5e, x5f, x5c, x3p, x3q, x3r, x3s, x3t, x3u, x3v, x3w, x3x, x4a, x4l, x49, x4b, x4c, x3j, x2o, x2j, x2d, x2i, x2m, x2n, x2c, x2h, x2g, x2f, x2e, x2k, x6s, x6u, x6t, x2x, x7y, x2w, x7x, x5u, x5r, x5q, x5v, x5s, x5p, x5t, x6a, x67, x66, x6b, x68, x65, x69, x5z, x5x, x5y, x5w, x60, x64, x63, x61, x62, xbn, xd2, xbt, xd8, xbo, xd3, xbr, xd6, xbp, xd4, xbq, xd5, xbs, xd7, xct, xe8, xcz, xee, xcu, xe9, xcx, xec, xcv, xea, xcw, xeb, xcy, xed, xbu, xd9, xc0, xdf, xbv, xda, xby, xdd, xbw, xdb, xbx, xdc, xbz, xde, xcf, xdu, xcl, xe0, xcg, xdv, xcj, xdy, xch, xdw, xci, xdx, xck, xdz, xc1, xdg, xc7, xdm, xc2, xdh, xc5, xdk, xc3, xdi, xc4, xdj, xc6, xdl, xc8, xdn, xce, xdt, xc9, xdo, xcc, xdr, xca, xdp, xcb, xdq, xcd, xds, xcm, xe1, xcs, xe7, xcn, xe2, xcq, xe5, xco, xe3, xcp, xe4, xcr, xe6, x8k, x8l, x8m, x8n, x0s, x0t, x0u, x0v, x0w, x0x, x0y, x3y, x4n, x41, x4e, x44, x4j, x47, x4g, x4m, x40, x4d, x43, x4i, x46, x4h, x3z, x42, x4f, x45, x4k, x48, x37, x3c, x38, x39, x3a, x3b, x1n, x1o, x1p, x1q, x1r, x1s, x1t, x1u, x1k, x1l, x1m, List.getElem?_cons_zero, List.getElem?_cons_succ, List.set_cons_zero, List.set_cons_succ, List.replicate, List.cons_append, List.nil_append, List.take_succ_cons, List.take_zero, List.getD_cons_zero, List.getD_cons_succ, List.map_cons, List.map_nil, if_true, if_false, Bool.true_and, Bool.and_true, Bool.false_and, Bool.and_false, Bool.true_or, Bool.or_true, Bool.false_or, Bool.or_false, Bool.not_true, Bool.not_false, reduceIte, Bool.false_eq_true, eq_self, Nat.sub_self, sc, noL, noLAll, Option.map_some, Int.toNat_natCast, Nat.reduceSub, Nat.reduceAdd, decide_true, decide_false, List.length_cons, List.length_nil, Int.reduceLT, Int.reduceLE, Int.reduceAdd, Int.reduceMul, Int.reduceSub, Int.reduceNeg, Int.reduceToNat, Int.reducePow, Int.reduceMod, Int.reduceDiv, Int.reduceEq, Nat.reducePow, Nat.reduceMul, Nat.reduceLT, Nat.reduceLeDiff, Int.ofNat_zero, Int.natCast_zero, Int.natCast_one, Int.ofNat_eq_natCast, Int.natCast_nonneg, beq_self_eq_true, Option.isNone_none, Option.isNone_some, Bool.not_eq_true, List.append_nil, Option.bind_some, List.lookup_cons, List.contains_nil, List.contains_cons, c])]
    simp only [x02, x9h, xa1, xa0, x9y, x9z, x9x, x33, x30, x2y, x2z, x32, x31, x52, x50, x4z, x51, x4y, x4w, x4x, xbh, xbm, xbi, xbf, xbg, xbe, xbj, xbl, xbk, xba, xbd, xbb, xbc, x7b, x7c, x7a, x7e, x7d, x78, x79, xb5, xb9, xb6, xb8, xb7, x00, x01, x8j, x8c, x18, x19, x1a, xb3, xb4, x0j, x0g, x0i, x0h, x8d, x8e, x8g, x8f, x82, x83, x84, xat, xar, xas, xal, xak, xap, xao, xan, xam, xeh, x07, x03, x04, x05, x06, x08, x09, x6j, x6c, x6d, x6e, x6f, x6g, x6h, x6i, x2q, x2p, x2r, x2s, xav, xaq, x77, x76, x3m, x3l, xa3, xa4, xab, xac, xad, xae, xaf, xag, xah, xai, xa5, xa6, xa7, xa8, xa9, xaa, xaj, x89, x8a, x8h, x8i, x9m, x9n, x9o, x9p, x9q, x9r, x9s, x6x, x6v, x6w, x20, x1v, x1w, x1y, x1x, x1z, x4v, x4t, x4u, x4q, x4r, x4s, x5b, x1b, x1i, x1h, x1g, x1d, x74, x75, x73, x6z, x6y, x72, x70, x71, x9e, x5k, x5l, x5m, x5n, x8x, x8y, x8z, x90, x91, x92, x93, x2v, x2t, x2u, xei, xej, xek, xel, x8w, x98, x99, xb1, xb2, xb0, xaz, x81, x80, x87, x88, x85, x86, xd1, xd0, x8t, x8s, x6r, x6n, x6p, x6o, x8b, x6k, x6l, x6m, x7z, x1c, x2b, x8v, x9f, x9v, x9w, x9u, x9t, x59, x5a, x8u, x97, x35, x34, x0o, x0a, x0b, x0d, x0c, x0e, x0p, x0q, x0r, x12, x0z, x10, x11, x5o, x5g, x9g, x9a, x9b, x9c, x9d, x0n, x0l, x0m, x36, xef, xeg, x4p, x4o, xax, xay, x53, x55, x54, xaw, xau, x3f, x3e, x3d, x3g, x8p, x8o, x8q, x8r, x7r, x7p, x7q, x7o, x7m, x7k, x7l, x7n, x7i, x7h, x7f, x7g, x14, x16, x17, x15, x13, x1f, x1e, x5j, x5h, x5i, x57, x58, x56, x27, x2a, x29, x28, x9k, x9j, x9l, x9i, x1j, x21, x22, x23, x26, x25, x24, x7v, x7w, x3n, x3h, x3i, x7j, x7s, x7t, x7u, x96, x95, x94, x5e, x5f, x5c, x3p, x3q, x3r, x3s, x3t, x3u, x3v, x3w, x3x, x4a, x4l, x49, x4b, x4c, x3j, x2o, x2j, x2d, x2i, x2m, x2n, x2c, x2h, x2g, x2f, x2e, x2k, x6s, x6u, x6t, x2x, x7y, x2w, x7x, x5u, x5r, x5q, x5v, x5s, x5p, x5t, x6a, x67, x66, x6b, x68, x65, x69, x5z, x5x, x5y, x5w, x60, x64, x63, x61, x62, xbn, xd2, xbt, xd8, xbo, xd3, xbr, xd6, xbp, xd4, xbq, xd5, xbs, xd7, xct, xe8, xcz, xee, xcu, xe9, xcx, xec, xcv, xea, xcw, xeb, xcy, xed, xbu, xd9, xc0, xdf, xbv, xda, xby, xdd, xbw, xdb, xbx, xdc, xbz, xde, xcf, xdu, xcl, xe0, xcg, xdv, xcj, xdy, xch, xdw, xci, xdx, xck, xdz, xc1, xdg, xc7, xdm, xc2, xdh, xc5, xdk, xc3, xdi, xc4, xdj, xc6, xdl, xc8, xdn, xce, xdt, xc9, xdo, xcc, xdr, xca, xdp, xcb, xdq, xcd, xds, xcm, xe1, xcs, xe7, xcn, xe2, xcq, xe5, xco, xe3, xcp, xe4, xcr, xe6, x8k, x8l, x8m, x8n, x0s, x0t, x0u, x0v, x0w, x0x, x0y, x3y, x4n, x41, x4e, x44, x4j, x47, x4g, x4m, x40, x4d, x43, x4i, x46, x4h, x3z, x42, x4f, x45, x4k, x48, x37, x3c, x38, x39, x3a, x3b, x1n, x1o, x1p, x1q, x1r, x1s, x1t, x1u, x1k, x1l, x1m, List.getElem?_cons_zero, List.getElem?_cons_succ, List.set_cons_zero, List.set_cons_succ, List.replicate, List.cons_append, List.nil_append, List.take_succ_cons, List.take_zero, List.getD_cons_zero, List.getD_cons_succ, List.map_cons, List.map_nil, if_true, if_false, Bool.true_and, Bool.and_true, Bool.false_and, Bool.and_false, Bool.true_or, Bool.or_true, Bool.false_or, Bool.or_false, Bool.not_true, Bool.not_false, reduceIte, Bool.false_eq_true, eq_self, Nat.sub_self, sc, noL, noLAll, Option.map_some, Int.toNat_natCast, Nat.reduceSub, Nat.reduceAdd, decide_true, decide_false, List.length_cons, List.length_nil, Int.reduceLT, Int.reduceLE, Int.reduceAdd, Int.reduceMul, Int.reduceSub, Int.reduceNeg, Int.reduceToNat, Int.reducePow, Int.reduceMod, Int.reduceDiv, Int.reduceEq, Nat.reducePow, Nat.reduceMul, Nat.reduceLT, Nat.reduceLeDiff, Int.ofNat_zero, Int.natCast_zero, Int.natCast_one, Int.ofNat_eq_natCast, Int.natCast_nonneg, beq_self_eq_true, Option.isNone_none, Option.isNone_some, Bool.not_eq_true, List.append_nil, Option.bind_some, List.lookup_cons, List.contains_nil, List.contains_cons, map_snd]
    rw [worth_map its _ (insOf sh) (fun p hq => by rw [insOf_get _ _ (by rw [lsh]; exact oki p hq), getD_ob _ _ (by rw [lsh]; exact oki p hq)])]
    simp only [x02, x9h, xa1, xa0, x9y, x9z, x9x, x33, x30, x2y, x2z, x32, x31, x52, x50, x4z, x51, x4y, x4w, x4x, xbh, xbm, xbi, xbf, xbg, xbe, xbj, xbl, xbk, xba, xbd, xbb, xbc, x7b, x7c, x7a, x7e, x7d, x78, x79, xb5, xb9, xb6, xb8, xb7, x00, x01, x8j, x8c, x18, x19, x1a, xb3, xb4, x0j, x0g, x0i, x0h, x8d, x8e, x8g, x8f, x82, x83, x84, xat, xar, xas, xal, xak, xap, xao, xan, xam, xeh, x07, x03, x04, x05, x06, x08, x09, x6j, x6c, x6d, x6e, x6f, x6g, x6h, x6i, x2q, x2p, x2r, x2s, xav, xaq, x77, x76, x3m, x3l, xa3, xa4, xab, xac, xad, xae, xaf, xag, xah, xai, xa5, xa6, xa7, xa8, xa9, xaa, xaj, x89, x8a, x8h, x8i, x9m, x9n, x9o, x9p, x9q, x9r, x9s, x6x, x6v, x6w, x20, x1v, x1w, x1y, x1x, x1z, x4v, x4t, x4u, x4q, x4r, x4s, x5b, x1b, x1i, x1h, x1g, x1d, x74, x75, x73, x6z, x6y, x72, x70, x71, x9e, x5k, x5l, x5m, x5n, x8x, x8y, x8z, x90, x91, x92, x93, x2v, x2t, x2u, xei, xej, xek, xel, x8w, x98, x99, xb1, xb2, xb0, xaz, x81, x80, x87, x88, x85, x86, xd1, xd0, x8t, x8s, x6r, x6n, x6p, x6o, x8b, x6k, x6l, x6m, x7z, x1c, x2b, x8v, x9f, x9v, x9w, x9u, x9t, x59, x5a, x8u, x97, x35, x34, x0o, x0a, x0b, x0d, x0c, x0e, x0p, x0q, x0r, x12, x0z, x10, x11, x5o, x5g, x9g, x9a, x9b, x9c, x9d, x0n, x0l, x0m, x36, xef, xeg, x4p, x4o, xax, xay, x53, x55, x54, xaw, xau, x3f, x3e, x3d, x3g, x8p, x8o, x8q, x8r, x7r, x7p, x7q, x7o, x7m, x7k, x7l, x7n, x7i, x7h, x7f, x7g, x14, x16, x17, x15, x13, x1f, x1e, x5j, x5h, x5i, x57, x58, x56, x27, x2a, x29, x28, x9k, x9j, x9l, x9i, x1j, x21, x22, x23, x26, x25, x24, x7v, x7w, x3n, x3h, x3i, x7j, x7s, x7t, x7u, x96, x95, x94, x5e, x5f, x5c, x3p, x3q, x3r, x3s, x3t, x3u, x3v, x3w, x3x, x4a, x4l, x49, x4b, x4c, x3j, x2o, x2j, x2d, x2i, x2m, x2n, x2c, x2h, x2g, x2f, x2e, x2k, x6s, x6u, x6t, x2x, x7y, x2w, x7x, x5u, x5r, x5q, x5v, x5s, x5p, x5t, x6a, x67, x66, x6b, x68, x65, x69, x5z, x5x, x5y, x5w, x60, x64, x63, x61, x62, xbn, xd2, xbt, xd8, xbo, xd3, xbr, xd6, xbp, xd4, xbq, xd5, xbs, xd7, xct, xe8, xcz, xee, xcu, xe9, xcx, xec, xcv, xea, xcw, xeb, xcy, xed, xbu, xd9, xc0, xdf, xbv, xda, xby, xdd, xbw, xdb, xbx, xdc, xbz, xde, xcf, xdu, xcl, xe0, xcg, xdv, xcj, xdy, xch, xdw, xci, xdx, xck, xdz, xc1, xdg, xc7, xdm, xc2, xdh, xc5, xdk, xc3, xdi, xc4, xdj, xc6, xdl, xc8, xdn, xce, xdt, xc9, xdo, xcc, xdr, xca, xdp, xcb, xdq, xcd, xds, xcm, xe1, xcs, xe7, xcn, xe2, xcq, xe5, xco, xe3, xcp, xe4, xcr, xe6, x8k, x8l, x8m, x8n, x0s, x0t, x0u, x0v, x0w, x0x, x0y, x3y, x4n, x41, x4e, x44, x4j, x47, x4g, x4m, x40, x4d, x43, x4i, x46, x4h, x3z, x42, x4f, x45, x4k, x48, x37, x3c, x38, x39, x3a, x3b, x1n, x1o, x1p, x1q, x1r, x1s, x1t, x1u, x1k, x1l, x1m, List.getElem?_cons_zero, List.getElem?_cons_succ, List.set_cons_zero, List.set_cons_succ, List.replicate, List.cons_append, List.nil_append, List.take_succ_cons, List.take_zero, List.getD_cons_zero, List.getD_cons_succ, List.map_cons, List.map_nil, if_true, if_false, Bool.true_and, Bool.and_true, Bool.false_and, Bool.and_false, Bool.true_or, Bool.or_true, Bool.false_or, Bool.or_false, Bool.not_true, Bool.not_false, reduceIte, Bool.false_eq_true, eq_self, Nat.sub_self, sc, noL, noLAll, Option.map_some, Int.toNat_natCast, Nat.reduceSub, Nat.reduceAdd, decide_true, decide_false, List.length_cons, List.length_nil, Int.reduceLT, Int.reduceLE, Int.reduceAdd, Int.reduceMul, Int.reduceSub, Int.reduceNeg, Int.reduceToNat, Int.reducePow, Int.reduceMod, Int.reduceDiv, Int.reduceEq, Nat.reducePow, Nat.reduceMul, Nat.reduceLT, Nat.reduceLeDiff, Int.ofNat_zero, Int.natCast_zero, Int.natCast_one, Int.ofNat_eq_natCast, Int.natCast_nonneg, beq_self_eq_true, Option.isNone_none, Option.isNone_some, Bool.not_eq_true, List.append_nil, Option.bind_some, List.lookup_cons, List.contains_nil, List.contains_cons, xa2]
    rfl) ?_
  -- the bound
  have hb : ∃ b : Int, Ev (sSeq (sAsg 8 (mAdd (mIx (mLst (eCons (mVar 6) (eCons (mVar 7) eNil))) (mBin dMod (mBin dFdiv (mVar 1) (mC (.int 60))) (mC (.int 2)))) (mIx (mLst (eCons (mC (.int 0)) (eCons (mC (.int 1)) (eCons (mUn dNeg (mC (.int 1))) (eCons (mC (.int 0)) eNil))))) (mBin dMod (mBin dFdiv (mVar 1) (mC (.int 120))) (mC (.int 4)))))) if_law_1)
      [.s ns, .v true (.int mx), .v true (.int many), .o false false true (sh.map dOB), .o false false true (wo.map .bool), .o false false true (its.map dItem), .v true (.int (worthOf its (leftOf sh wo))), .v true (.int (worthOf its (insOf sh))), .u, .u, .u, .u, .u, .u, .u, .u, .u]
      (fun o => o = .nx [.s ns, .v true (.int mx), .v true (.int many), .o false false true (sh.map dOB), .o false false true (wo.map .bool), .o false false true (its.map dItem), .v true (.int (worthOf its (leftOf sh wo))), .v true (.int (worthOf its (insOf sh))), .v true (.int b), .u, .u, .u, .u, .u, .u, .u, .u]) := by
    obtain ⟨x, hx, hx2⟩ := pick2 (.int (worthOf its (leftOf sh wo))) (.int (worthOf its (insOf sh))) ((mx : Int) / 60 % 2) (by omega) (by omega)
    obtain ⟨y, hy⟩ := pick4 ((mx : Int) / 120 % 4) (by omega) (by omega)
    obtain ⟨z, rfl⟩ : ∃ z : Int, x = .int z := by rcases hx2 with rfl | rfl <;> exact ⟨_, rfl⟩
    by_cases hb : (mx : Int) / 480 % 8 = 3
    · refine ⟨0 - ns.getD 3 0 % 1000000000000000000000000000000000000000000000000000000000000, ?_⟩
      refine Ev.seq (by simp only [x02, x9h, xa1, xa0, x9y, x9z, x9x, x33, x30, x2y, x2z, x32, x31, x52, x50, x4z, x51, x4y, x4w, x4x, xbh, xbm, xbi, xbf, xbg, xbe, xbj, xbl, xbk, xba, xbd, xbb, xbc, x7b, x7c, x7a, x7e, x7d, x78, x79, xb5, xb9, xb6, xb8, xb7, x00, x01, x8j, x8c, x18, x19, x1a, xb3, xb4, x0j, x0g, x0i, x0h, x8d, x8e, x8g, x8f, x82, x83, x84, xat, xar, xas, xal, xak, xap, xao, xan, xam, xeh, x07, x03, x04, x05, x06, x08, x09, x6j, x6c, x6d, x6e, x6f, x6g, x6h, x6i, x2q, x2p, x2r, x2s, xav, xaq, x77, x76, x3m, x3l, xa3, xa4, xab, xac, xad, xae, xaf, xag, xah, xai, xa5, xa6, xa7, xa8, xa9, xaa, xaj, x89, x8a, x8h, x8i, x9m, x9n, x9o, x9p, x9q, x9r, x9s, x6x, x6v, x6w, x20, x1v, x1w, x1y, x1x, x1z, x4v, x4t, x4u, x4q, x4r, x4s, x5b, x1b, x1i, x1h, x1g, x1d, x74, x75, x73, x6z, x6y, x72, x70, x71, x9e, x5k, x5l, x5m, x5n, x8x, x8y, x8z, x90, x91, x92, x93, x2v, x2t, x2u, xei, xej, xek, xel, x8w, x98, x99, xb1, xb2, xb0, xaz, x81, x80, x87, x88, x85, x86, xd1, xd0, x8t, x8s, x6r, x6n, x6p, x6o, x8b, x6k, x6l, x6m, x7z, x1c, x2b, x8v, x9f, x9v, x9w, x9u, x9t, x59, x5a, x8u, x97, x35, x34, x0o, x0a, x0b, x0d, x0c, x0e, x0p, x0q, x0r, x12, x0z, x10, x11, x5o, x5g, x9g, x9a, x9b, x9c, x9d, x0n, x0l, x0m, x36, xef, xeg, x4p, x4o, xax, xay, x53, x55, x54, xaw, xau, x3f, x3e, x3d, x3g, x8p, x8o, x8q, x8r, x7r, x7p, x7q, x7o, x7m, x7k, x7l, x7n, x7i, x7h, x7f, x7g, x14, x16, x17, x15, x13, x1f, x1e, x5j, x5h, x5i, x57, x58, x56, x27, x2a, x29, x28, x9k, x9j, x9l, x9i, x1j, x21, x22, x23, x26, x25, x24, x7v, x7w, x3n, x3h, x3i, x7j, x7s, x7t, x7u, x96, x95, x94, x5e, x5f, x5c, x3p, x3q, x3r, x3s, x3t, x3u, x3v, x3w, x3x, x4a, x4l, x49, x4b, x4c, x3j, x2o, x2j, x2d, x2i, x2m, x2n, x2c, x2h, x2g, x2f, x2e, x2k, x6s, x6u, x6t, x2x, x7y, x2w, x7x, x5u, x5r, x5q, x5v, x5s, x5p, x5t, x6a, x67, x66, x6b, x68, x65, x69, x5z, x5x, x5y, x5w, x60, x64, x63, x61, x62, xbn, xd2, xbt, xd8, xbo, xd3, xbr, xd6, xbp, xd4, xbq, xd5, xbs, xd7, xct, xe8, xcz, xee, xcu, xe9, xcx, xec, xcv, xea, xcw, xeb, xcy, xed, xbu, xd9, xc0, xdf, xbv, xda, xby, xdd, xbw, xdb, xbx, xdc, xbz, xde, xcf, xdu, xcl, xe0, xcg, xdv, xcj, xdy, xch, xdw, xci, xdx, xck, xdz, xc1, xdg, xc7, xdm, xc2, xdh, xc5, xdk, xc3, xdi, xc4, xdj, xc6, xdl, xc8, xdn, xce, xdt, xc9, xdo, xcc, xdr, xca, xdp, xcb, xdq, xcd, xds, xcm, xe1, xcs, xe7, xcn, xe2, xcq, xe5, xco, xe3, xcp, xe4, xcr, xe6, x8k, x8l, x8m, x8n, x0s, x0t, x0u, x0v, x0w, x0x, x0y, x3y, x4n, x41, x4e, x44, x4j, x47, x4g, x4m, x40, x4d, x43, x4i, x46, x4h, x3z, x42, x4f, x45, x4k, x48, x37, x3c, x38, x39, x3a, x3b, x1n, x1o, x1p, x1q, x1r, x1s, x1t, x1u, x1k, x1l, x1m, List.getElem?_cons_zero, List.getElem?_cons_succ, List.set_cons_zero, List.set_cons_succ, List.replicate, List.cons_append, List.nil_append, List.take_succ_cons, List.take_zero, List.getD_cons_zero, List.getD_cons_succ, List.map_cons, List.map_nil, if_true, if_false, Bool.true_and, Bool.and_true, Bool.false_and, Bool.and_false, Bool.true_or, Bool.or_true, Bool.false_or, Bool.or_false, Bool.not_true, Bool.not_false, reduceIte, Bool.false_eq_true, eq_self, Nat.sub_self, sc, noL, noLAll, Option.map_some, Int.toNat_natCast, Nat.reduceSub, Nat.reduceAdd, decide_true, decide_false, List.length_cons, List.length_nil, Int.reduceLT, Int.reduceLE, Int.reduceAdd, Int.reduceMul, Int.reduceSub, Int.reduceNeg, Int.reduceToNat, Int.reducePow, Int.reduceMod, Int.reduceDiv, Int.reduceEq, Nat.reducePow, Nat.reduceMul, Nat.reduceLT, Nat.reduceLeDiff, Int.ofNat_zero, Int.natCast_zero, Int.natCast_one, Int.ofNat_eq_natCast, Int.natCast_nonneg, beq_self_eq_true, Option.isNone_none, Option.isNone_some, Bool.not_eq_true, List.append_nil, Option.bind_some, List.lookup_cons, List.contains_nil, List.contains_cons, if_pos (cdiv (mx : Int) 60 (by decide) (by decide)), if_pos (cdiv (mx : Int) 120 (by decide) (by decide)), hx, hy] <;> exact rfl) ?_
      exact Ev.of (by unfold if_law_1; simp only [x02, x9h, xa1, xa0, x9y, x9z, x9x, x33, x30, x2y, x2z, x32, x31, x52, x50, x4z, x51, x4y, x4w, x4x, xbh, xbm, xbi, xbf, xbg, xbe, xbj, xbl, xbk, xba, xbd, xbb, xbc, x7b, x7c, x7a, x7e, x7d, x78, x79, xb5, xb9, xb6, xb8, xb7, x00, x01, x8j, x8c, x18, x19, x1a, xb3, xb4, x0j, x0g, x0i, x0h, x8d, x8e, x8g, x8f, x82, x83, x84, xat, xar, xas, xal, xak, xap, xao, xan, xam, xeh, x07, x03, x04, x05, x06, x08, x09, x6j, x6c, x6d, x6e, x6f, x6g, x6h, x6i, x2q, x2p, x2r, x2s, xav, xaq, x77, x76, x3m, x3l, xa3, xa4, xab, xac, xad, xae, xaf, xag, xah, xai, xa5, xa6, xa7, xa8, xa9, xaa, xaj, x89, x8a, x8h, x8i, x9m, x9n, x9o, x9p, x9q, x9r, x9s, x6x, x6v, x6w, x20, x1v, x1w, x1y, x1x, x1z, x4v, x4t, x4u, x4q, x4r, x4s, x5b, x1b, x1i, x1h, x1g, x1d, x74, x75, x73, x6z, x6y, x72, x70, x71, x9e, x5k, x5l, x5m, x5n, x8x, x8y, x8z, x90, x91, x92, x93, x2v, x2t, x2u, xei, xej, xek, xel, x8w, x98, x99, xb1, xb2, xb0, xaz, x81, x80, x87, x88, x85, x86, xd1, xd0, x8t, x8s, x6r, x6n, x6p, x6o, x8b, x6k, x6l, x6m, x7z, x1c, x2b, x8v, x9f, x9v, x9w, x9u, x9t, x59, x5a, x8u, x97, x35, x34, x0o, x0a, x0b, x0d, x0c, x0e, x0p, x0q, x0r, x12, x0z, x10, x11, x5o, x5g, x9g, x9a, x9b, x9c, x9d, x0n, x0l, x0m, x36, xef, xeg, x4p, x4o, xax, xay, x53, x55, x54, xaw, xau, x3f, x3e, x3d, x3g, x8p, x8o, x8q, x8r, x7r, x7p, x7q, x7o, x7m, x7k, x7l, x7n, x7i, x7h, x7f, x7g, x14, x16, x17, x15, x13, x1f, x1e, x5j, x5h, x5i, x57, x58, x56, x27, x2a, x29, x28, x9k, x9j, x9l, x9i, x1j, x21, x22, x23, x26, x25, x24, x7v, x7w, x3n, x3h, x3i, x7j, x7s, x7t, x7u, x96, x95, x94, x5e, x5f, x5c, x3p, x3q, x3r, x3s, x3t, x3u, x3v, x3w, x3x, x4a, x4l, x49, x4b, x4c, x3j, x2o, x2j, x2d, x2i, x2m, x2n, x2c, x2h, x2g, x2f, x2e, x2k, x6s, x6u, x6t, x2x, x7y, x2w, x7x, x5u, x5r, x5q, x5v, x5s, x5p, x5t, x6a, x67, x66, x6b, x68, x65, x69, x5z, x5x, x5y, x5w, x60, x64, x63, x61, x62, xbn, xd2, xbt, xd8, xbo, xd3, xbr, xd6, xbp, xd4, xbq, xd5, xbs, xd7, xct, xe8, xcz, xee, xcu, xe9, xcx, xec, xcv, xea, xcw, xeb, xcy, xed, xbu, xd9, xc0, xdf, xbv, xda, xby, xdd, xbw, xdb, xbx, xdc, xbz, xde, xcf, xdu, xcl, xe0, xcg, xdv, xcj, xdy, xch, xdw, xci, xdx, xck, xdz, xc1, xdg, xc7, xdm, xc2, xdh, xc5, xdk, xc3, xdi, xc4, xdj, xc6, xdl, xc8, xdn, xce, xdt, xc9, xdo, xcc, xdr, xca, xdp, xcb, xdq, xcd, xds, xcm, xe1, xcs, xe7, xcn, xe2, xcq, xe5, xco, xe3, xcp, xe4, xcr, xe6, x8k, x8l, x8m, x8n, x0s, x0t, x0u, x0v, x0w, x0x, x0y, x3y, x4n, x41, x4e, x44, x4j, x47, x4g, x4m, x40, x4d, x43, x4i, x46, x4h, x3z, x42, x4f, x45, x4k, x48, x37, x3c, x38, x39, x3a, x3b, x1n, x1o, x1p, x1q, x1r, x1s, x1t, x1u, x1k, x1l, x1m, List.getElem?_cons_zero, List.getElem?_cons_succ, List.set_cons_zero, List.set_cons_succ, List.replicate, List.cons_append, List.nil_append, List.take_succ_cons, List.take_zero, List.getD_cons_zero, List.getD_cons_succ, List.map_cons, List.map_nil, if_true, if_false, Bool.true_and, Bool.and_true, Bool.false_and, Bool.and_false, Bool.true_or, Bool.or_true, Bool.false_or, Bool.or_false, Bool.not_true, Bool.not_false, reduceIte, Bool.false_eq_true, eq_self, Nat.sub_self, sc, noL, noLAll, Option.map_some, Int.toNat_natCast, Nat.reduceSub, Nat.reduceAdd, decide_true, decide_false, List.length_cons, List.length_nil, Int.reduceLT, Int.reduceLE, Int.reduceAdd, Int.reduceMul, Int.reduceSub, Int.reduceNeg, Int.reduceToNat, Int.reducePow, Int.reduceMod, Int.reduceDiv, Int.reduceEq, Nat.reducePow, Nat.reduceMul, Nat.reduceLT, Nat.reduceLeDiff, Int.ofNat_zero, Int.natCast_zero, Int.natCast_one, Int.ofNat_eq_natCast, Int.natCast_nonneg, beq_self_eq_true, Option.isNone_none, Option.isNone_some, Bool.not_eq_true, List.append_nil, Option.bind_some, List.lookup_cons, List.contains_nil, List.contains_cons, if_pos (cdiv (mx : Int) 480 (by decide) (by decide)), hb, hc3, x8n] <;> exact rfl) rfl
    · refine ⟨z + y, ?_⟩
      refine Ev.seq (by simp only [x02, x9h, xa1, xa0, x9y, x9z, x9x, x33, x30, x2y, x2z, x32, x31, x52, x50, x4z, x51, x4y, x4w, x4x, xbh, xbm, xbi, xbf, xbg, xbe, xbj, xbl, xbk, xba, xbd, xbb, xbc, x7b, x7c, x7a, x7e, x7d, x78, x79, xb5, xb9, xb6, xb8, xb7, x00, x01, x8j, x8c, x18, x19, x1a, xb3, xb4, x0j, x0g, x0i, x0h, x8d, x8e, x8g, x8f, x82, x83, x84, xat, xar, xas, xal, xak, xap, xao, xan, xam, xeh, x07, x03, x04, x05, x06, x08, x09, x6j, x6c, x6d, x6e, x6f, x6g, x6h, x6i, x2q, x2p, x2r, x2s, xav, xaq, x77, x76, x3m, x3l, xa3, xa4, xab, xac, xad, xae, xaf, xag, xah, xai, xa5, xa6, xa7, xa8, xa9, xaa, xaj, x89, x8a, x8h, x8i, x9m, x9n, x9o, x9p, x9q, x9r, x9s, x6x, x6v, x6w, x20, x1v, x1w, x1y, x1x, x1z, x4v, x4t, x4u, x4q, x4r, x4s, x5b, x1b, x1i, x1h, x1g, x1d, x74, x75, x73, x6z, x6y, x72, x70, x71, x9e, x5k, x5l, x5m, x5n, x8x, x8y, x8z, x90, x91, x92, x93, x2v, x2t, x2u, xei, xej, xek, xel, x8w, x98, x99, xb1, xb2, xb0, xaz, x81, x80, x87, x88, x85, x86, xd1, xd0, x8t, x8s, x6r, x6n, x6p, x6o, x8b, x6k, x6l, x6m, x7z, x1c, x2b, x8v, x9f, x9v, x9w, x9u, x9t, x59, x5a, x8u, x97, x35, x34, x0o, x0a, x0b, x0d, x0c, x0e, x0p, x0q, x0r, x12, x0z, x10, x11, x5o, x5g, x9g, x9a, x9b, x9c, x9d, x0n, x0l, x0m, x36, xef, xeg, x4p, x4o, xax, xay, x53, x55, x54, xaw, xau, x3f, x3e, x3d, x3g, x8p, x8o, x8q, x8r, x7r, x7p, x7q, x7o, x7m, x7k, x7l, x7n, x7i, x7h, x7f, x7g, x14, x16, x17, x15, x13, x1f, x1e, x5j, x5h, x5i, x57, x58, x56, x27, x2a, x29, x28, x9k, x9j, x9l, x9i, x1j, x21, x22, x23, x26, x25, x24, x7v, x7w, x3n, x3h, x3i, x7j, x7s, x7t, x7u, x96, x95, x94, x5e, x5f, x5c, x3p, x3q, x3r, x3s, x3t, x3u, x3v, x3w, x3x, x4a, x4l, x49, x4b, x4c, x3j, x2o, x2j, x2d, x2i, x2m, x2n, x2c, x2h, x2g, x2f, x2e, x2k, x6s, x6u, x6t, x2x, x7y, x2w, x7x, x5u, x5r, x5q, x5v, x5s, x5p, x5t, x6a, x67, x66, x6b, x68, x65, x69, x5z, x5x, x5y, x5w, x60, x64, x63, x61, x62, xbn, xd2, xbt, xd8, xbo, xd3, xbr, xd6, xbp, xd4, xbq, xd5, xbs, xd7, xct, xe8, xcz, xee, xcu, xe9, xcx, xec, xcv, xea, xcw, xeb, xcy, xed, xbu, xd9, xc0, xdf, xbv, xda, xby, xdd, xbw, xdb, xbx, xdc, xbz, xde, xcf, xdu, xcl, xe0, xcg, xdv, xcj, xdy, xch, xdw, xci, xdx, xck, xdz, xc1, xdg, xc7, xdm, xc2, xdh, xc5, xdk, xc3, xdi, xc4, xdj, xc6, xdl, xc8, xdn, xce, xdt, xc9, xdo, xcc, xdr, xca, xdp, xcb, xdq, xcd, xds, xcm, xe1, xcs, xe7, xcn, xe2, xcq, xe5, xco, xe3, xcp, xe4, xcr, xe6, x8k, x8l, x8m, x8n, x0s, x0t, x0u, x0v, x0w, x0x, x0y, x3y, x4n, x41, x4e, x44, x4j, x47, x4g, x4m, x40, x4d, x43, x4i, x46, x4h, x3z, x42, x4f, x45, x4k, x48, x37, x3c, x38, x39, x3a, x3b, x1n, x1o, x1p, x1q, x1r, x1s, x1t, x1u, x1k, x1l, x1m, List.getElem?_cons_zero, List.getElem?_cons_succ, List.set_cons_zero, List.set_cons_succ, List.replicate, List.cons_append, List.nil_append, List.take_succ_cons, List.take_zero, List.getD_cons_zero, List.getD_cons_succ, List.map_cons, List.map_nil, if_true, if_false, Bool.true_and, Bool.and_true, Bool.false_and, Bool.and_false, Bool.true_or, Bool.or_true, Bool.false_or, Bool.or_false, Bool.not_true, Bool.not_false, reduceIte, Bool.false_eq_true, eq_self, Nat.sub_self, sc, noL, noLAll, Option.map_some, Int.toNat_natCast, Nat.reduceSub, Nat.reduceAdd, decide_true, decide_false, List.length_cons, List.length_nil, Int.reduceLT, Int.reduceLE, Int.reduceAdd, Int.reduceMul, Int.reduceSub, Int.reduceNeg, Int.reduceToNat, Int.reducePow, Int.reduceMod, Int.reduceDiv, Int.reduceEq, Nat.reducePow, Nat.reduceMul, Nat.reduceLT, Nat.reduceLeDiff, Int.ofNat_zero, Int.natCast_zero, Int.natCast_one, Int.ofNat_eq_natCast, Int.natCast_nonneg, beq_self_eq_true, Option.isNone_none, Option.isNone_some, Bool.not_eq_true, List.append_nil, Option.bind_some, List.lookup_cons, List.contains_nil, List.contains_cons, if_pos (cdiv (mx : Int) 60 (by decide) (by decide)), if_pos (cdiv (mx : Int) 120 (by decide) (by decide)), hx, hy] <;> exact rfl) ?_
      exact Ev.of (by unfold if_law_1; simp only [x02, x9h, xa1, xa0, x9y, x9z, x9x, x33, x30, x2y, x2z, x32, x31, x52, x50, x4z, x51, x4y, x4w, x4x, xbh, xbm, xbi, xbf, xbg, xbe, xbj, xbl, xbk, xba, xbd, xbb, xbc, x7b, x7c, x7a, x7e, x7d, x78, x79, xb5, xb9, xb6, xb8, xb7, x00, x01, x8j, x8c, x18, x19, x1a, xb3, xb4, x0j, x0g, x0i, x0h, x8d, x8e, x8g, x8f, x82, x83, x84, xat, xar, xas, xal, xak, xap, xao, xan, xam, xeh, x07, x03, x04, x05, x06, x08, x09, x6j, x6c, x6d, x6e, x6f, x6g, x6h, x6i, x2q, x2p, x2r, x2s, xav, xaq, x77, x76, x3m, x3l, xa3, xa4, xab, xac, xad, xae, xaf, xag, xah, xai, xa5, xa6, xa7, xa8, xa9, xaa, xaj, x89, x8a, x8h, x8i, x9m, x9n, x9o, x9p, x9q, x9r, x9s, x6x, x6v, x6w, x20, x1v, x1w, x1y, x1x, x1z, x4v, x4t, x4u, x4q, x4r, x4s, x5b, x1b, x1i, x1h, x1g, x1d, x74, x75, x73, x6z, x6y, x72, x70, x71, x9e, x5k, x5l, x5m, x5n, x8x, x8y, x8z, x90, x91, x92, x93, x2v, x2t, x2u, xei, xej, xek, xel, x8w, x98, x99, xb1, xb2, xb0, xaz, x81, x80, x87, x88, x85, x86, xd1, xd0, x8t, x8s, x6r, x6n, x6p, x6o, x8b, x6k, x6l, x6m, x7z, x1c, x2b, x8v, x9f, x9v, x9w, x9u, x9t, x59, x5a, x8u, x97, x35, x34, x0o, x0a, x0b, x0d, x0c, x0e, x0p, x0q, x0r, x12, x0z, x10, x11, x5o, x5g, x9g, x9a, x9b, x9c, x9d, x0n, x0l, x0m, x36, xef, xeg, x4p, x4o, xax, xay, x53, x55, x54, xaw, xau, x3f, x3e, x3d, x3g, x8p, x8o, x8q, x8r, x7r, x7p, x7q, x7o, x7m, x7k, x7l, x7n, x7i, x7h, x7f, x7g, x14, x16, x17, x15, x13, x1f, x1e, x5j, x5h, x5i, x57, x58, x56, x27, x2a, x29, x28, x9k, x9j, x9l, x9i, x1j, x21, x22, x23, x26, x25, x24, x7v, x7w, x3n, x3h, x3i, x7j, x7s, x7t, x7u, x96, x95, x94, x5e, x5f, x5c, x3p, x3q, x3r, x3s, x3t, x3u, x3v, x3w, x3x, x4a, x4l, x49, x4b, x4c, x3j, x2o, x2j, x2d, x2i, x2m, x2n, x2c, x2h, x2g, x2f, x2e, x2k, x6s, x6u, x6t, x2x, x7y, x2w, x7x, x5u, x5r, x5q, x5v, x5s, x5p, x5t, x6a, x67, x66, x6b, x68, x65, x69, x5z, x5x, x5y, x5w, x60, x64, x63, x61, x62, xbn, xd2, xbt, xd8, xbo, xd3, xbr, xd6, xbp, xd4, xbq, xd5, xbs, xd7, xct, xe8, xcz, xee, xcu, xe9, xcx, xec, xcv, xea, xcw, xeb, xcy, xed, xbu, xd9, xc0, xdf, xbv, xda, xby, xdd, xbw, xdb, xbx, xdc, xbz, xde, xcf, xdu, xcl, xe0, xcg, xdv, xcj, xdy, xch, xdw, xci, xdx, xck, xdz, xc1, xdg, xc7, xdm, xc2, xdh, xc5, xdk, xc3, xdi, xc4, xdj, xc6, xdl, xc8, xdn, xce, xdt, xc9, xdo, xcc, xdr, xca, xdp, xcb, xdq, xcd, xds, xcm, xe1, xcs, xe7, xcn, xe2, xcq, xe5, xco, xe3, xcp, xe4, xcr, xe6, x8k, x8l, x8m, x8n, x0s, x0t, x0u, x0v, x0w, x0x, x0y, x3y, x4n, x41, x4e, x44, x4j, x47, x4g, x4m, x40, x4d, x43, x4i, x46, x4h, x3z, x42, x4f, x45, x4k, x48, x37, x3c, x38, x39, x3a, x3b, x1n, x1o, x1p, x1q, x1r, x1s, x1t, x1u, x1k, x1l, x1m, List.getElem?_cons_zero, List.getElem?_cons_succ, List.set_cons_zero, List.set_cons_succ, List.replicate, List.cons_append, List.nil_append, List.take_succ_cons, List.take_zero, List.getD_cons_zero, List.getD_cons_succ, List.map_cons, List.map_nil, if_true, if_false, Bool.true_and, Bool.and_true, Bool.false_and, Bool.and_false, Bool.true_or, Bool.or_true, Bool.false_or, Bool.or_false, Bool.not_true, Bool.not_false, reduceIte, Bool.false_eq_true, eq_self, Nat.sub_self, sc, noL, noLAll, Option.map_some, Int.toNat_natCast, Nat.reduceSub, Nat.reduceAdd, decide_true, decide_false, List.length_cons, List.length_nil, Int.reduceLT, Int.reduceLE, Int.reduceAdd, Int.reduceMul, Int.reduceSub, Int.reduceNeg, Int.reduceToNat, Int.reducePow, Int.reduceMod, Int.reduceDiv, Int.reduceEq, Nat.reducePow, Nat.reduceMul, Nat.reduceLT, Nat.reduceLeDiff, Int.ofNat_zero, Int.natCast_zero, Int.natCast_one, Int.ofNat_eq_natCast, Int.natCast_nonneg, beq_self_eq_true, Option.isNone_none, Option.isNone_some, Bool.not_eq_true, List.append_nil, Option.bind_some, List.lookup_cons, List.contains_nil, List.contains_cons, if_pos (cdiv (mx : Int) 480 (by decide) (by decide)), hb, decide_false] <;> exact rfl) rfl
  obtain ⟨b, hb⟩ := hb
  refine Ev.two hb ?_
  obtain ⟨t0, ht0, ht1⟩ : ∃ t : Nat, (mx : Int) / 3840 % (many : Int) = (t : Int) ∧ t < many := nat_mod _ many hm0
  have lt1 : ∀ t ∈ t0 :: its.map (·.1), t < many := fun t ht => by
    rcases List.mem_cons.mp ht with h | h
    · subst h; exact ht1
    · obtain ⟨p, hp, rfl⟩ := List.mem_map.mp h
      exact oki p hp
  obtain ⟨ts, hts⟩ : ∃ ts, ts = t0 :: its.map (·.1) := ⟨_, rfl⟩
  have lts : ts.length ≤ 64 := by rw [hts, List.length_cons, List.length_map]; omega
  rw [← hts] at lt1
  refine Ev.seq (e1 := [.s ns, .v true (.int mx), .v true (.int many), .o false false true (sh.map dOB), .o false false true (wo.map .bool), .v true (.list (its.map dItem)), .v true (.int (worthOf its (leftOf sh wo))), .v true (.int (worthOf its (insOf sh))), .v true (.int b), .o false false true ((rowsOf b its []).map dPart), .u, .u, .u, .u, .u, .u, .u]) (by simp only [x02, x9h, xa1, xa0, x9y, x9z, x9x, x33, x30, x2y, x2z, x32, x31, x52, x50, x4z, x51, x4y, x4w, x4x, xbh, xbm, xbi, xbf, xbg, xbe, xbj, xbl, xbk, xba, xbd, xbb, xbc, x7b, x7c, x7a, x7e, x7d, x78, x79, xb5, xb9, xb6, xb8, xb7, x00, x01, x8j, x8c, x18, x19, x1a, xb3, xb4, x0j, x0g, x0i, x0h, x8d, x8e, x8g, x8f, x82, x83, x84, xat, xar, xas, xal, xak, xap, xao, xan, xam, xeh, x07, x03, x04, x05, x06, x08, x09, x6j, x6c, x6d, x6e, x6f, x6g, x6h, x6i, x2q, x2p, x2r, x2s, xav, xaq, x77, x76, x3m, x3l, xa3, xa4, xab, xac, xad, xae, xaf, xag, xah, xai, xa5, xa6, xa7, xa8, xa9, xaa, xaj, x89, x8a, x8h, x8i, x9m, x9n, x9o, x9p, x9q, x9r, x9s, x6x, x6v, x6w, x20, x1v, x1w, x1y, x1x, x1z, x4v, x4t, x4u, x4q, x4r, x4s, x5b, x1b, x1i, x1h, x1g, x1d, x74, x75, x73, x6z, x6y, x72, x70, x71, x9e, x5k, x5l, x5m, x5n, x8x, x8y, x8z, x90, x91, x92, x93, x2v, x2t, x2u, xei, xej, xek, xel, x8w, x98, x99, xb1, xb2, xb0, xaz, x81, x80, x87, x88, x85, x86, xd1, xd0, x8t, x8s, x6r, x6n, x6p, x6o, x8b, x6k, x6l, x6m, x7z, x1c, x2b, x8v, x9f, x9v, x9w, x9u, x9t, x59, x5a, x8u, x97, x35, x34, x0o, x0a, x0b, x0d, x0c, x0e, x0p, x0q, x0r, x12, x0z, x10, x11, x5o, x5g, x9g, x9a, x9b, x9c, x9d, x0n, x0l, x0m, x36, xef, xeg, x4p, x4o, xax, xay, x53, x55, x54, xaw, xau, x3f, x3e, x3d, x3g, x8p, x8o, x8q, x8r, x7r, x7p, x7q, x7o, x7m, x7k, x7l, x7n, x7i, x7h, x7f, x7g, x14, x16, x17, x15, x13, x1f, x1e, x5j, x5h, x5i, x57, x58, x56, x27, x2a, x29, x28, x9k, x9j, x9l, x9i, x1j, x21, x22, x23, x26, x25, x24, x7v, x7w, x3n, x3h, x3i, x7j, x7s, x7t, x7u, x96, x95, x94, x5e, x5f, x5c, x3p, x3q, x3r, x3s, x3t, x3u, x3v, x3w, x3x, x4a, x4l, x49, x4b, x4c, x3j, x2o, x2j, x2d, x2i, x2m, x2n, x2c, x2h, x2g, x2f, x2e, x2k, x6s, x6u, x6t, x2x, x7y, x2w, x7x, x5u, x5r, x5q, x5v, x5s, x5p, x5t, x6a, x67, x66, x6b, x68, x65, x69, x5z, x5x, x5y, x5w, x60, x64, x63, x61, x62, xbn, xd2, xbt, xd8, xbo, xd3, xbr, xd6, xbp, xd4, xbq, xd5, xbs, xd7, xct, xe8, xcz, xee, xcu, xe9, xcx, xec, xcv, xea, xcw, xeb, xcy, xed, xbu, xd9, xc0, xdf, xbv, xda, xby, xdd, xbw, xdb, xbx, xdc, xbz, xde, xcf, xdu, xcl, xe0, xcg, xdv, xcj, xdy, xch, xdw, xci, xdx, xck, xdz, xc1, xdg, xc7, xdm, xc2, xdh, xc5, xdk, xc3, xdi, xc4, xdj, xc6, xdl, xc8, xdn, xce, xdt, xc9, xdo, xcc, xdr, xca, xdp, xcb, xdq, xcd, xds, xcm, xe1, xcs, xe7, xcn, xe2, xcq, xe5, xco, xe3, xcp, xe4, xcr, xe6, x8k, x8l, x8m, x8n, x0s, x0t, x0u, x0v, x0w, x0x, x0y, x3y, x4n, x41, x4e, x44, x4j, x47, x4g, x4m, x40, x4d, x43, x4i, x46, x4h, x3z, x42, x4f, x45, x4k, x48, x37, x3c, x38, x39, x3a, x3b, x1n, x1o, x1p, x1q, x1r, x1s, x1t, x1u, x1k, x1l, x1m, List.getElem?_cons_zero, List.getElem?_cons_succ, List.set_cons_zero, List.set_cons_succ, List.replicate, List.cons_append, List.nil_append, List.take_succ_cons, List.take_zero, List.getD_cons_zero, List.getD_cons_succ, List.map_cons, List.map_nil, if_true, if_false, Bool.true_and, Bool.and_true, Bool.false_and, Bool.and_false, Bool.true_or, Bool.or_true, Bool.false_or, Bool.or_false, Bool.not_true, Bool.not_false, reduceIte, Bool.false_eq_true, eq_self, Nat.sub_self, sc, noL, noLAll, Option.map_some, Int.toNat_natCast, Nat.reduceSub, Nat.reduceAdd, decide_true, decide_false, List.length_cons, List.length_nil, Int.reduceLT, Int.reduceLE, Int.reduceAdd, Int.reduceMul, Int.reduceSub, Int.reduceNeg, Int.reduceToNat, Int.reducePow, Int.reduceMod, Int.reduceDiv, Int.reduceEq, Nat.reducePow, Nat.reduceMul, Nat.reduceLT, Nat.reduceLeDiff, Int.ofNat_zero, Int.natCast_zero, Int.natCast_one, Int.ofNat_eq_natCast, Int.natCast_nonneg, beq_self_eq_true, Option.isNone_none, Option.isNone_some, Bool.not_eq_true, List.append_nil, Option.bind_some, List.lookup_cons, List.contains_nil, List.contains_cons] <;> exact rfl) ?_
  obtain ⟨e, h1, t10, f10, he⟩ := forLoop_inv (tg := .nm 10) (body := lp_law_1) (f := true) dNat (fun pre e => ∃ t10, frS (some t10) = true ∧ e = [.s ns, .v true (.int mx), .v true (.int many), .o false false true (sh.map dOB), .o false false true (wo.map .bool), .v true (.list (its.map dItem)), .v true (.int (worthOf its (leftOf sh wo))), .v true (.int (worthOf its (insOf sh))), .v true (.int b), .o false false true ((rowsOf b its pre).map dPart), t10, .u, .u, .u, .u, .u, .u]) ts (fun pre t post e hx ⟨t10, f10, he⟩ => by
    subst he
    have hl : pre.length < ts.length := by rw [hx, List.length_append, List.length_cons]; omega
    have l1 : 2 + 2 * pre.length < sizeLine := by omega
    have l2 : 2 + 2 * pre.length + 1 < sizeLine := by omega
    refine ⟨_, ?_, .v true (.int t), rfl, rfl⟩
    unfold lp_law_1
    simp only [x02, x9h, xa1, xa0, x9y, x9z, x9x, x33, x30, x2y, x2z, x32, x31, x52, x50, x4z, x51, x4y, x4w, x4x, xbh, xbm, xbi, xbf, xbg, xbe, xbj, xbl, xbk, xba, xbd, xbb, xbc, x7b, x7c, x7a, x7e, x7d, x78, x79, xb5, xb9, xb6, xb8, xb7, x00, x01, x8j, x8c, x18, x19, x1a, xb3, xb4, x0j, x0g, x0i, x0h, x8d, x8e, x8g, x8f, x82, x83, x84, xat, xar, xas, xal, xak, xap, xao, xan, xam, xeh, x07, x03, x04, x05, x06, x08, x09, x6j, x6c, x6d, x6e, x6f, x6g, x6h, x6i, x2q, x2p, x2r, x2s, xav, xaq, x77, x76, x3m, x3l, xa3, xa4, xab, xac, xad, xae, xaf, xag, xah, xai, xa5, xa6, xa7, xa8, xa9, xaa, xaj, x89, x8a, x8h, x8i, x9m, x9n, x9o, x9p, x9q, x9r, x9s, x6x, x6v, x6w, x20, x1v, x1w, x1y, x1x, x1z, x4v, x4t, x4u, x4q, x4r, x4s, x5b, x1b, x1i, x1h, x1g, x1d, x74, x75, x73, x6z, x6y, x72, x70, x71, x9e, x5k, x5l, x5m, x5n, x8x, x8y, x8z, x90, x91, x92, x93, x2v, x2t, x2u, xei, xej, xek, xel, x8w, x98, x99, xb1, xb2, xb0, xaz, x81, x80, x87, x88, x85, x86, xd1, xd0, x8t, x8s, x6r, x6n, x6p, x6o, x8b, x6k, x6l, x6m, x7z, x1c, x2b, x8v, x9f, x9v, x9w, x9u, x9t, x59, x5a, x8u, x97, x35, x34, x0o, x0a, x0b, x0d, x0c, x0e, x0p, x0q, x0r, x12, x0z, x10, x11, x5o, x5g, x9g, x9a, x9b, x9c, x9d, x0n, x0l, x0m, x36, xef, xeg, x4p, x4o, xax, xay, x53, x55, x54, xaw, xau, x3f, x3e, x3d, x3g, x8p, x8o, x8q, x8r, x7r, x7p, x7q, x7o, x7m, x7k, x7l, x7n, x7i, x7h, x7f, x7g, x14, x16, x17, x15, x13, x1f, x1e, x5j, x5h, x5i, x57, x58, x56, x27, x2a, x29, x28, x9k, x9j, x9l, x9i, x1j, x21, x22, x23, x26, x25, x24, x7v, x7w, x3n, x3h, x3i, x7j, x7s, x7t, x7u, x96, x95, x94, x5e, x5f, x5c, x3p, x3q, x3r, x3s, x3t, x3u, x3v, x3w, x3x, x4a, x4l, x49, x4b, x4c, x3j, x2o, x2j, x2d, x2i, x2m, x2n, x2c, x2h, x2g, x2f, x2e, x2k, x6s, x6u, x6t, x2x, x7y, x2w, x7x, x5u, x5r, x5q, x5v, x5s, x5p, x5t, x6a, x67, x66, x6b, x68, x65, x69, x5z, x5x, x5y, x5w, x60, x64, x63, x61, x62, xbn, xd2, xbt, xd8, xbo, xd3, xbr, xd6, xbp, xd4, xbq, xd5, xbs, xd7, xct, xe8, xcz, xee, xcu, xe9, xcx, xec, xcv, xea, xcw, xeb, xcy, xed, xbu, xd9, xc0, xdf, xbv, xda, xby, xdd, xbw, xdb, xbx, xdc, xbz, xde, xcf, xdu, xcl, xe0, xcg, xdv, xcj, xdy, xch, xdw, xci, xdx, xck, xdz, xc1, xdg, xc7, xdm, xc2, xdh, xc5, xdk, xc3, xdi, xc4, xdj, xc6, xdl, xc8, xdn, xce, xdt, xc9, xdo, xcc, xdr, xca, xdp, xcb, xdq, xcd, xds, xcm, xe1, xcs, xe7, xcn, xe2, xcq, xe5, xco, xe3, xcp, xe4, xcr, xe6, x8k, x8l, x8m, x8n, x0s, x0t, x0u, x0v, x0w, x0x, x0y, x3y, x4n, x41, x4e, x44, x4j, x47, x4g, x4m, x40, x4d, x43, x4i, x46, x4h, x3z, x42, x4f, x45, x4k, x48, x37, x3c, x38, x39, x3a, x3b, x1n, x1o, x1p, x1q, x1r, x1s, x1t, x1u, x1k, x1l, x1m, List.getElem?_cons_zero, List.getElem?_cons_succ, List.set_cons_zero, List.set_cons_succ, List.replicate, List.cons_append, List.nil_append, List.take_succ_cons, List.take_zero, List.getD_cons_zero, List.getD_cons_succ, List.map_cons, List.map_nil, if_true, if_false, Bool.true_and, Bool.and_true, Bool.false_and, Bool.and_false, Bool.true_or, Bool.or_true, Bool.false_or, Bool.or_false, Bool.not_true, Bool.not_false, reduceIte, Bool.false_eq_true, eq_self, Nat.sub_self, sc, noL, noLAll, Option.map_some, Int.toNat_natCast, Nat.reduceSub, Nat.reduceAdd, decide_true, decide_false, List.length_cons, List.length_nil, Int.reduceLT, Int.reduceLE, Int.reduceAdd, Int.reduceMul, Int.reduceSub, Int.reduceNeg, Int.reduceToNat, Int.reducePow, Int.reduceMod, Int.reduceDiv, Int.reduceEq, Nat.reducePow, Nat.reduceMul, Nat.reduceLT, Nat.reduceLeDiff, Int.ofNat_zero, Int.natCast_zero, Int.natCast_one, Int.ofNat_eq_natCast, Int.natCast_nonneg, beq_self_eq_true, Option.isNone_none, Option.isNone_some, Bool.not_eq_true, List.append_nil, Option.bind_some, List.lookup_cons, List.contains_nil, List.contains_cons, f10, List.length_map, List.length_append, rowsOf_len, l1, l2, rowsOf_snoc]) _ ⟨.u, rfl, rfl⟩
  subst he
  refine Ev.seq (by
    simp only [x02, x9h, xa1, xa0, x9y, x9z, x9x, x33, x30, x2y, x2z, x32, x31, x52, x50, x4z, x51, x4y, x4w, x4x, xbh, xbm, xbi, xbf, xbg, xbe, xbj, xbl, xbk, xba, xbd, xbb, xbc, x7b, x7c, x7a, x7e, x7d, x78, x79, xb5, xb9, xb6, xb8, xb7, x00, x01, x8j, x8c, x18, x19, x1a, xb3, xb4, x0j, x0g, x0i, x0h, x8d, x8e, x8g, x8f, x82, x83, x84, xat, xar, xas, xal, xak, xap, xao, xan, xam, xeh, x07, x03, x04, x05, x06, x08, x09, x6j, x6c, x6d, x6e, x6f, x6g, x6h, x6i, x2q, x2p, x2r, x2s, xav, xaq, x77, x76, x3m, x3l, xa3, xa4, xab, xac, xad, xae, xaf, xag, xah, xai, xa5, xa6, xa7, xa8, xa9, xaa, xaj, x89, x8a, x8h, x8i, x9m, x9n, x9o, x9p, x9q, x9r, x9s, x6x, x6v, x6w, x20, x1v, x1w, x1y, x1x, x1z, x4v, x4t, x4u, x4q, x4r, x4s, x5b, x1b, x1i, x1h, x1g, x1d, x74, x75, x73, x6z, x6y, x72, x70, x71, x9e, x5k, x5l, x5m, x5n, x8x, x8y, x8z, x90, x91, x92, x93, x2v, x2t, x2u, xei, xej, xek, xel, x8w, x98, x99, xb1, xb2, xb0, xaz, x81, x80, x87, x88, x85, x86, xd1, xd0, x8t, x8s, x6r, x6n, x6p, x6o, x8b, x6k, x6l, x6m, x7z, x1c, x2b, x8v, x9f, x9v, x9w, x9u, x9t, x59, x5a, x8u, x97, x35, x34, x0o, x0a, x0b, x0d, x0c, x0e, x0p, x0q, x0r, x12, x0z, x10, x11, x5o, x5g, x9g, x9a, x9b, x9c, x9d, x0n, x0l, x0m, x36, xef, xeg, x4p, x4o, xax, xay, x53, x55, x54, xaw, xau, x3f, x3e, x3d, x3g, x8p, x8o, x8q, x8r, x7r, x7p, x7q, x7o, x7m, x7k, x7l, x7n, x7i, x7h, x7f, x7g, x14, x16, x17, x15, x13, x1f, x1e, x5j, x5h, x5i, x57, x58, x56, x27, x2a, x29, x28, x9k, x9j, x9l, x9i, x1j, x21, x22, x23, x26, x25, x24, x7v, x7w, x3n, x3h, x3i, x7j, x7s, x7t, x7u, x96, x95, x94, x5e, x5f, x5c, x3p, x3q, x3r, x3s, x3t, x3u, x3v, x3w, x3x, x4a, x4l, x49, x4b, x4c, x3j, x2o, x2j, x2d, x2i, x2m, x2n, x2c, x2h, x2g, x2f, x2e, x2k, x6s, x6u, x6t, x2x, x7y, x2w, x7x, x5u, x5r, x5q, x5v, x5s, x5p, x5t, x6a, x67, x66, x6b, x68, x65, x69, x5z, x5x, x5y, x5w, x60, x64, x63, x61, x62, xbn, xd2, xbt, xd8, xbo, xd3, xbr, xd6, xbp, xd4, xbq, xd5, xbs, xd7, xct, xe8, xcz, xee, xcu, xe9, xcx, xec, xcv, xea, xcw, xeb, xcy, xed, xbu, xd9, xc0, xdf, xbv, xda, xby, xdd, xbw, xdb, xbx, xdc, xbz, xde, xcf, xdu, xcl, xe0, xcg, xdv, xcj, xdy, xch, xdw, xci, xdx, xck, xdz, xc1, xdg, xc7, xdm, xc2, xdh, xc5, xdk, xc3, xdi, xc4, xdj, xc6, xdl, xc8, xdn, xce, xdt, xc9, xdo, xcc, xdr, xca, xdp, xcb, xdq, xcd, xds, xcm, xe1, xcs, xe7, xcn, xe2, xcq, xe5, xco, xe3, xcp, xe4, xcr, xe6, x8k, x8l, x8m, x8n, x0s, x0t, x0u, x0v, x0w, x0x, x0y, x3y, x4n, x41, x4e, x44, x4j, x47, x4g, x4m, x40, x4d, x43, x4i, x46, x4h, x3z, x42, x4f, x45, x4k, x48, x37, x3c, x38, x39, x3a, x3b, x1n, x1o, x1p, x1q, x1r, x1s, x1t, x1u, x1k, x1l, x1m, List.getElem?_cons_zero, List.getElem?_cons_succ, List.set_cons_zero, List.set_cons_succ, List.replicate, List.cons_append, List.nil_append, List.take_succ_cons, List.take_zero, List.getD_cons_zero, List.getD_cons_succ, List.map_cons, List.map_nil, if_true, if_false, Bool.true_and, Bool.and_true, Bool.false_and, Bool.and_false, Bool.true_or, Bool.or_true, Bool.false_or, Bool.or_false, Bool.not_true, Bool.not_false, reduceIte, Bool.false_eq_true, eq_self, Nat.sub_self, sc, noL, noLAll, Option.map_some, Int.toNat_natCast, Nat.reduceSub, Nat.reduceAdd, decide_true, decide_false, List.length_cons, List.length_nil, Int.reduceLT, Int.reduceLE, Int.reduceAdd, Int.reduceMul, Int.reduceSub, Int.reduceNeg, Int.reduceToNat, Int.reducePow, Int.reduceMod, Int.reduceDiv, Int.reduceEq, Nat.reducePow, Nat.reduceMul, Nat.reduceLT, Nat.reduceLeDiff, Int.ofNat_zero, Int.natCast_zero, Int.natCast_one, Int.ofNat_eq_natCast, Int.natCast_nonneg, beq_self_eq_true, Option.isNone_none, Option.isNone_some, Bool.not_eq_true, List.append_nil, Option.bind_some, List.lookup_cons, List.contains_nil, List.contains_cons, if_pos (cdiv (mx : Int) 3840 (by decide) (by decide)), if_pos (show (0 : Int) < (many : Int) by omega), ht0]
    rw [lcLoop_map1 (b := true) (g := fun p : Nat × Int => dNat p.1) (h := fun p _ => by
      show lcOne _ _ _ _ _ (dItem p) _ = _
      unfold dItem
      simp only [x02, x9h, xa1, xa0, x9y, x9z, x9x, x33, x30, x2y, x2z, x32, x31, x52, x50, x4z, x51, x4y, x4w, x4x, xbh, xbm, xbi, xbf, xbg, xbe, xbj, xbl, xbk, xba, xbd, xbb, xbc, x7b, x7c, x7a, x7e, x7d, x78, x79, xb5, xb9, xb6, xb8, xb7, x00, x01, x8j, x8c, x18, x19, x1a, xb3, xb4, x0j, x0g, x0i, x0h, x8d, x8e, x8g, x8f, x82, x83, x84, xat, xar, xas, xal, xak, xap, xao, xan, xam, xeh, x07, x03, x04, x05, x06, x08, x09, x6j, x6c, x6d, x6e, x6f, x6g, x6h, x6i, x2q, x2p, x2r, x2s, xav, xaq, x77, x76, x3m, x3l, xa3, xa4, xab, xac, xad, xae, xaf, xag, xah, xai, xa5, xa6, xa7, xa8, xa9, xaa, xaj, x89, x8a, x8h, x8i, x9m, x9n, x9o, x9p, x9q, x9r, x9s, x6x, x6v, x6w, x20, x1v, x1w, x1y, x1x, x1z, x4v, x4t, x4u, x4q, x4r, x4s, x5b, x1b, x1i, x1h, x1g, x1d, x74, x75, x73, x6z, x6y, x72, x70, x71, x9e, x5k, x5l, x5m, x5n, x8x, x8y, x8z, x90, x91, x92, x93, x2v, x2t, x2u, xei, xej, xek, xel, x8w, x98, x99, xb1, xb2, xb0, xaz, x81, x80, x87, x88, x85, x86, xd1, xd0, x8t, x8s, x6r, x6n, x6p, x6o, x8b, x6k, x6l, x6m, x7z, x1c, x2b, x8v, x9f, x9v, x9w, x9u, x9t, x59, x5a, x8u, x97, x35, x34, x0o, x0a, x0b, x0d, x0c, x0e, x0p, x0q, x0r, x12, x0z, x10, x11, x5o, x5g, x9g, x9a, x9b, x9c, x9d, x0n, x0l, x0m, x36, xef, xeg, x4p, x4o, xax, xay, x53, x55, x54, xaw, xau, x3f, x3e, x3d, x3g, x8p, x8o, x8q, x8r, x7r, x7p, x7q, x7o, x7m, x7k, x7l, x7n, x7i, x7h, x7f, x7g, x14, x16, x17, x15, x13, x1f, x1e, x5j, x5h, x5i, x57, x58, x56, x27, x2a, x29, x28, x9k, x9j, x9l, x9i, x1j, x21, x22, x23, x26, x25, x24, x7v, x7w, x3n, x3h, x3i, x7j, x7s, x7t, x7u, x96, x95, x94, x5e, x5f, x5c, x3p, x3q, x3r, x3s, x3t, x3u, x3v, x3w, x3x, x4a, x4l, x49, x4b, x4c, x3j, x2o, x2j, x2d, x2i, x2m, x2n, x2c, x2h, x2g, x2f, x2e, x2k, x6s, x6u, x6t, x2x, x7y, x2w, x7x, x5u, x5r, x5q, x5v, x5s, x5p, x5t, x6a, x67, x66, x6b, x68, x65, x69, x5z, x5x, x5y, x5w, x60, x64, x63, x61, x62, xbn, xd2, xbt, xd8, xbo, xd3, xbr, xd6, xbp, xd4, xbq, xd5, xbs, xd7, xct, xe8, xcz, xee, xcu, xe9, xcx, xec, xcv, xea, xcw, xeb, xcy, xed, xbu, xd9, xc0, xdf, xbv, xda, xby, xdd, xbw, xdb, xbx, xdc, xbz, xde, xcf, xdu, xcl, xe0, xcg, xdv, xcj, xdy, xch, xdw, xci, xdx, xck, xdz, xc1, xdg, xc7, xdm, xc2, xdh, xc5, xdk, xc3, xdi, xc4, xdj, xc6, xdl, xc8, xdn, xce, xdt, xc9, xdo, xcc, xdr, xca, xdp, xcb, xdq, xcd, xds, xcm, xe1, xcs, xe7, xcn, xe2, xcq, xe5, xco, xe3, xcp, xe4, xcr, xe6, x8k, x8l, x8m, x8n, x0s, x0t, x0u, x0v, x0w, x0x, x0y, x3y, x4n, x41, x4e, x44, x4j, x47, x4g, x4m, x40, x4d, x43, x4i, x46, x4h, x3z, x42, x4f, x45, x4k, x48, x37, x3c, x38, x39, x3a, x3b, x1n, x1o, x1p, x1q, x1r, x1s, x1t, x1u, x1k, x1l, x1m, List.getElem?_cons_zero, List.getElem?_cons_succ, List.set_cons_zero, List.set_cons_succ, List.replicate, List.cons_append, List.nil_append, List.take_succ_cons, List.take_zero, List.getD_cons_zero, List.getD_cons_succ, List.map_cons, List.map_nil, if_true, if_false, Bool.true_and, Bool.and_true, Bool.false_and, Bool.and_false, Bool.true_or, Bool.or_true, Bool.false_or, Bool.or_false, Bool.not_true, Bool.not_false, reduceIte, Bool.false_eq_true, eq_self, Nat.sub_self, sc, noL, noLAll, Option.map_some, Int.toNat_natCast, Nat.reduceSub, Nat.reduceAdd, decide_true, decide_false, List.length_cons, List.length_nil, Int.reduceLT, Int.reduceLE, Int.reduceAdd, Int.reduceMul, Int.reduceSub, Int.reduceNeg, Int.reduceToNat, Int.reducePow, Int.reduceMod, Int.reduceDiv, Int.reduceEq, Nat.reducePow, Nat.reduceMul, Nat.reduceLT, Nat.reduceLeDiff, Int.ofNat_zero, Int.natCast_zero, Int.natCast_one, Int.ofNat_eq_natCast, Int.natCast_nonneg, beq_self_eq_true, Option.isNone_none, Option.isNone_some, Bool.not_eq_true, List.append_nil, Option.bind_some, List.lookup_cons, List.contains_nil, List.contains_cons])]
    simp only [x02, x9h, xa1, xa0, x9y, x9z, x9x, x33, x30, x2y, x2z, x32, x31, x52, x50, x4z, x51, x4y, x4w, x4x, xbh, xbm, xbi, xbf, xbg, xbe, xbj, xbl, xbk, xba, xbd, xbb, xbc, x7b, x7c, x7a, x7e, x7d, x78, x79, xb5, xb9, xb6, xb8, xb7, x00, x01, x8j, x8c, x18, x19, x1a, xb3, xb4, x0j, x0g, x0i, x0h, x8d, x8e, x8g, x8f, x82, x83, x84, xat, xar, xas, xal, xak, xap, xao, xan, xam, xeh, x07, x03, x04, x05, x06, x08, x09, x6j, x6c, x6d, x6e, x6f, x6g, x6h, x6i, x2q, x2p, x2r, x2s, xav, xaq, x77, x76, x3m, x3l, xa3, xa4, xab, xac, xad, xae, xaf, xag, xah, xai, xa5, xa6, xa7, xa8, xa9, xaa, xaj, x89, x8a, x8h, x8i, x9m, x9n, x9o, x9p, x9q, x9r, x9s, x6x, x6v, x6w, x20, x1v, x1w, x1y, x1x, x1z, x4v, x4t, x4u, x4q, x4r, x4s, x5b, x1b, x1i, x1h, x1g, x1d, x74, x75, x73, x6z, x6y, x72, x70, x71, x9e, x5k, x5l, x5m, x5n, x8x, x8y, x8z, x90, x91, x92, x93, x2v, x2t, x2u, xei, xej, xek, xel, x8w, x98, x99, xb1, xb2, xb0, xaz, x81, x80, x87, x88, x85, x86, xd1, xd0, x8t, x8s, x6r, x6n, x6p, x6o, x8b, x6k, x6l, x6m, x7z, x1c, x2b, x8v, x9f, x9v, x9w, x9u, x9t, x59, x5a, x8u, x97, x35, x34, x0o, x0a, x0b, x0d, x0c, x0e, x0p, x0q, x0r, x12, x0z, x10, x11, x5o, x5g, x9g, x9a, x9b, x9c, x9d, x0n, x0l, x0m, x36, xef, xeg, x4p, x4o, xax, xay, x53, x55, x54, xaw, xau, x3f, x3e, x3d, x3g, x8p, x8o, x8q, x8r, x7r, x7p, x7q, x7o, x7m, x7k, x7l, x7n, x7i, x7h, x7f, x7g, x14, x16, x17, x15, x13, x1f, x1e, x5j, x5h, x5i, x57, x58, x56, x27, x2a, x29, x28, x9k, x9j, x9l, x9i, x1j, x21, x22, x23, x26, x25, x24, x7v, x7w, x3n, x3h, x3i, x7j, x7s, x7t, x7u, x96, x95, x94, x5e, x5f, x5c, x3p, x3q, x3r, x3s, x3t, x3u, x3v, x3w, x3x, x4a, x4l, x49, x4b, x4c, x3j, x2o, x2j, x2d, x2i, x2m, x2n, x2c, x2h, x2g, x2f, x2e, x2k, x6s, x6u, x6t, x2x, x7y, x2w, x7x, x5u, x5r, x5q, x5v, x5s, x5p, x5t, x6a, x67, x66, x6b, x68, x65, x69, x5z, x5x, x5y, x5w, x60, x64, x63, x61, x62, xbn, xd2, xbt, xd8, xbo, xd3, xbr, xd6, xbp, xd4, xbq, xd5, xbs, xd7, xct, xe8, xcz, xee, xcu, xe9, xcx, xec, xcv, xea, xcw, xeb, xcy, xed, xbu, xd9, xc0, xdf, xbv, xda, xby, xdd, xbw, xdb, xbx, xdc, xbz, xde, xcf, xdu, xcl, xe0, xcg, xdv, xcj, xdy, xch, xdw, xci, xdx, xck, xdz, xc1, xdg, xc7, xdm, xc2, xdh, xc5, xdk, xc3, xdi, xc4, xdj, xc6, xdl, xc8, xdn, xce, xdt, xc9, xdo, xcc, xdr, xca, xdp, xcb, xdq, xcd, xds, xcm, xe1, xcs, xe7, xcn, xe2, xcq, xe5, xco, xe3, xcp, xe4, xcr, xe6, x8k, x8l, x8m, x8n, x0s, x0t, x0u, x0v, x0w, x0x, x0y, x3y, x4n, x41, x4e, x44, x4j, x47, x4g, x4m, x40, x4d, x43, x4i, x46, x4h, x3z, x42, x4f, x45, x4k, x48, x37, x3c, x38, x39, x3a, x3b, x1n, x1o, x1p, x1q, x1r, x1s, x1t, x1u, x1k, x1l, x1m, List.getElem?_cons_zero, List.getElem?_cons_succ, List.set_cons_zero, List.set_cons_succ, List.replicate, List.cons_append, List.nil_append, List.take_succ_cons, List.take_zero, List.getD_cons_zero, List.getD_cons_succ, List.map_cons, List.map_nil, if_true, if_false, Bool.true_and, Bool.and_true, Bool.false_and, Bool.and_false, Bool.true_or, Bool.or_true, Bool.false_or, Bool.or_false, Bool.not_true, Bool.not_false, reduceIte, Bool.false_eq_true, eq_self, Nat.sub_self, sc, noL, noLAll, Option.map_some, Int.toNat_natCast, Nat.reduceSub, Nat.reduceAdd, decide_true, decide_false, List.length_cons, List.length_nil, Int.reduceLT, Int.reduceLE, Int.reduceAdd, Int.reduceMul, Int.reduceSub, Int.reduceNeg, Int.reduceToNat, Int.reducePow, Int.reduceMod, Int.reduceDiv, Int.reduceEq, Nat.reducePow, Nat.reduceMul, Nat.reduceLT, Nat.reduceLeDiff, Int.ofNat_zero, Int.natCast_zero, Int.natCast_one, Int.ofNat_eq_natCast, Int.natCast_nonneg, beq_self_eq_true, Option.isNone_none, Option.isNone_some, Bool.not_eq_true, List.append_nil, Option.bind_some, List.lookup_cons, List.contains_nil, List.contains_cons, flagT, map_snd, all_sc (fun p : Nat × Int => dNat p.1) its (fun _ => rfl), List.length_map]
    rw [if_pos (by omega)]
    simp only [x02, x9h, xa1, xa0, x9y, x9z, x9x, x33, x30, x2y, x2z, x32, x31, x52, x50, x4z, x51, x4y, x4w, x4x, xbh, xbm, xbi, xbf, xbg, xbe, xbj, xbl, xbk, xba, xbd, xbb, xbc, x7b, x7c, x7a, x7e, x7d, x78, x79, xb5, xb9, xb6, xb8, xb7, x00, x01, x8j, x8c, x18, x19, x1a, xb3, xb4, x0j, x0g, x0i, x0h, x8d, x8e, x8g, x8f, x82, x83, x84, xat, xar, xas, xal, xak, xap, xao, xan, xam, xeh, x07, x03, x04, x05, x06, x08, x09, x6j, x6c, x6d, x6e, x6f, x6g, x6h, x6i, x2q, x2p, x2r, x2s, xav, xaq, x77, x76, x3m, x3l, xa3, xa4, xab, xac, xad, xae, xaf, xag, xah, xai, xa5, xa6, xa7, xa8, xa9, xaa, xaj, x89, x8a, x8h, x8i, x9m, x9n, x9o, x9p, x9q, x9r, x9s, x6x, x6v, x6w, x20, x1v, x1w, x1y, x1x, x1z, x4v, x4t, x4u, x4q, x4r, x4s, x5b, x1b, x1i, x1h, x1g, x1d, x74, x75, x73, x6z, x6y, x72, x70, x71, x9e, x5k, x5l, x5m, x5n, x8x, x8y, x8z, x90, x91, x92, x93, x2v, x2t, x2u, xei, xej, xek, xel, x8w, x98, x99, xb1, xb2, xb0, xaz, x81, x80, x87, x88, x85, x86, xd1, xd0, x8t, x8s, x6r, x6n, x6p, x6o, x8b, x6k, x6l, x6m, x7z, x1c, x2b, x8v, x9f, x9v, x9w, x9u, x9t, x59, x5a, x8u, x97, x35, x34, x0o, x0a, x0b, x0d, x0c, x0e, x0p, x0q, x0r, x12, x0z, x10, x11, x5o, x5g, x9g, x9a, x9b, x9c, x9d, x0n, x0l, x0m, x36, xef, xeg, x4p, x4o, xax, xay, x53, x55, x54, xaw, xau, x3f, x3e, x3d, x3g, x8p, x8o, x8q, x8r, x7r, x7p, x7q, x7o, x7m, x7k, x7l, x7n, x7i, x7h, x7f, x7g, x14, x16, x17, x15, x13, x1f, x1e, x5j, x5h, x5i, x57, x58, x56, x27, x2a, x29, x28, x9k, x9j, x9l, x9i, x1j, x21, x22, x23, x26, x25, x24, x7v, x7w, x3n, x3h, x3i, x7j, x7s, x7t, x7u, x96, x95, x94, x5e, x5f, x5c, x3p, x3q, x3r, x3s, x3t, x3u, x3v, x3w, x3x, x4a, x4l, x49, x4b, x4c, x3j, x2o, x2j, x2d, x2i, x2m, x2n, x2c, x2h, x2g, x2f, x2e, x2k, x6s, x6u, x6t, x2x, x7y, x2w, x7x, x5u, x5r, x5q, x5v, x5s, x5p, x5t, x6a, x67, x66, x6b, x68, x65, x69, x5z, x5x, x5y, x5w, x60, x64, x63, x61, x62, xbn, xd2, xbt, xd8, xbo, xd3, xbr, xd6, xbp, xd4, xbq, xd5, xbs, xd7, xct, xe8, xcz, xee, xcu, xe9, xcx, xec, xcv, xea, xcw, xeb, xcy, xed, xbu, xd9, xc0, xdf, xbv, xda, xby, xdd, xbw, xdb, xbx, xdc, xbz, xde, xcf, xdu, xcl, xe0, xcg, xdv, xcj, xdy, xch, xdw, xci, xdx, xck, xdz, xc1, xdg, xc7, xdm, xc2, xdh, xc5, xdk, xc3, xdi, xc4, xdj, xc6, xdl, xc8, xdn, xce, xdt, xc9, xdo, xcc, xdr, xca, xdp, xcb, xdq, xcd, xds, xcm, xe1, xcs, xe7, xcn, xe2, xcq, xe5, xco, xe3, xcp, xe4, xcr, xe6, x8k, x8l, x8m, x8n, x0s, x0t, x0u, x0v, x0w, x0x, x0y, x3y, x4n, x41, x4e, x44, x4j, x47, x4g, x4m, x40, x4d, x43, x4i, x46, x4h, x3z, x42, x4f, x45, x4k, x48, x37, x3c, x38, x39, x3a, x3b, x1n, x1o, x1p, x1q, x1r, x1s, x1t, x1u, x1k, x1l, x1m, List.getElem?_cons_zero, List.getElem?_cons_succ, List.set_cons_zero, List.set_cons_succ, List.replicate, List.cons_append, List.nil_append, List.take_succ_cons, List.take_zero, List.getD_cons_zero, List.getD_cons_succ, List.map_cons, List.map_nil, if_true, if_false, Bool.true_and, Bool.and_true, Bool.false_and, Bool.and_false, Bool.true_or, Bool.or_true, Bool.false_or, Bool.or_false, Bool.not_true, Bool.not_false, reduceIte, Bool.false_eq_true, eq_self, Nat.sub_self, sc, noL, noLAll, Option.map_some, Int.toNat_natCast, Nat.reduceSub, Nat.reduceAdd, decide_true, decide_false, List.length_cons, List.length_nil, Int.reduceLT, Int.reduceLE, Int.reduceAdd, Int.reduceMul, Int.reduceSub, Int.reduceNeg, Int.reduceToNat, Int.reducePow, Int.reduceMod, Int.reduceDiv, Int.reduceEq, Nat.reducePow, Nat.reduceMul, Nat.reduceLT, Nat.reduceLeDiff, Int.ofNat_zero, Int.natCast_zero, Int.natCast_one, Int.ofNat_eq_natCast, Int.natCast_nonneg, beq_self_eq_true, Option.isNone_none, Option.isNone_some, Bool.not_eq_true, List.append_nil, Option.bind_some, List.lookup_cons, List.contains_nil, List.contains_cons]
    rw [show (PyData.int (t0 : Nat) :: its.map fun p => dNat p.1) = ts.map dNat from by rw [hts, List.map_cons, List.map_map]; rfl]
    simp only [x02, x9h, xa1, xa0, x9y, x9z, x9x, x33, x30, x2y, x2z, x32, x31, x52, x50, x4z, x51, x4y, x4w, x4x, xbh, xbm, xbi, xbf, xbg, xbe, xbj, xbl, xbk, xba, xbd, xbb, xbc, x7b, x7c, x7a, x7e, x7d, x78, x79, xb5, xb9, xb6, xb8, xb7, x00, x01, x8j, x8c, x18, x19, x1a, xb3, xb4, x0j, x0g, x0i, x0h, x8d, x8e, x8g, x8f, x82, x83, x84, xat, xar, xas, xal, xak, xap, xao, xan, xam, xeh, x07, x03, x04, x05, x06, x08, x09, x6j, x6c, x6d, x6e, x6f, x6g, x6h, x6i, x2q, x2p, x2r, x2s, xav, xaq, x77, x76, x3m, x3l, xa3, xa4, xab, xac, xad, xae, xaf, xag, xah, xai, xa5, xa6, xa7, xa8, xa9, xaa, xaj, x89, x8a, x8h, x8i, x9m, x9n, x9o, x9p, x9q, x9r, x9s, x6x, x6v, x6w, x20, x1v, x1w, x1y, x1x, x1z, x4v, x4t, x4u, x4q, x4r, x4s, x5b, x1b, x1i, x1h, x1g, x1d, x74, x75, x73, x6z, x6y, x72, x70, x71, x9e, x5k, x5l, x5m, x5n, x8x, x8y, x8z, x90, x91, x92, x93, x2v, x2t, x2u, xei, xej, xek, xel, x8w, x98, x99, xb1, xb2, xb0, xaz, x81, x80, x87, x88, x85, x86, xd1, xd0, x8t, x8s, x6r, x6n, x6p, x6o, x8b, x6k, x6l, x6m, x7z, x1c, x2b, x8v, x9f, x9v, x9w, x9u, x9t, x59, x5a, x8u, x97, x35, x34, x0o, x0a, x0b, x0d, x0c, x0e, x0p, x0q, x0r, x12, x0z, x10, x11, x5o, x5g, x9g, x9a, x9b, x9c, x9d, x0n, x0l, x0m, x36, xef, xeg, x4p, x4o, xax, xay, x53, x55, x54, xaw, xau, x3f, x3e, x3d, x3g, x8p, x8o, x8q, x8r, x7r, x7p, x7q, x7o, x7m, x7k, x7l, x7n, x7i, x7h, x7f, x7g, x14, x16, x17, x15, x13, x1f, x1e, x5j, x5h, x5i, x57, x58, x56, x27, x2a, x29, x28, x9k, x9j, x9l, x9i, x1j, x21, x22, x23, x26, x25, x24, x7v, x7w, x3n, x3h, x3i, x7j, x7s, x7t, x7u, x96, x95, x94, x5e, x5f, x5c, x3p, x3q, x3r, x3s, x3t, x3u, x3v, x3w, x3x, x4a, x4l, x49, x4b, x4c, x3j, x2o, x2j, x2d, x2i, x2m, x2n, x2c, x2h, x2g, x2f, x2e, x2k, x6s, x6u, x6t, x2x, x7y, x2w, x7x, x5u, x5r, x5q, x5v, x5s, x5p, x5t, x6a, x67, x66, x6b, x68, x65, x69, x5z, x5x, x5y, x5w, x60, x64, x63, x61, x62, xbn, xd2, xbt, xd8, xbo, xd3, xbr, xd6, xbp, xd4, xbq, xd5, xbs, xd7, xct, xe8, xcz, xee, xcu, xe9, xcx, xec, xcv, xea, xcw, xeb, xcy, xed, xbu, xd9, xc0, xdf, xbv, xda, xby, xdd, xbw, xdb, xbx, xdc, xbz, xde, xcf, xdu, xcl, xe0, xcg, xdv, xcj, xdy, xch, xdw, xci, xdx, xck, xdz, xc1, xdg, xc7, xdm, xc2, xdh, xc5, xdk, xc3, xdi, xc4, xdj, xc6, xdl, xc8, xdn, xce, xdt, xc9, xdo, xcc, xdr, xca, xdp, xcb, xdq, xcd, xds, xcm, xe1, xcs, xe7, xcn, xe2, xcq, xe5, xco, xe3, xcp, xe4, xcr, xe6, x8k, x8l, x8m, x8n, x0s, x0t, x0u, x0v, x0w, x0x, x0y, x3y, x4n, x41, x4e, x44, x4j, x47, x4g, x4m, x40, x4d, x43, x4i, x46, x4h, x3z, x42, x4f, x45, x4k, x48, x37, x3c, x38, x39, x3a, x3b, x1n, x1o, x1p, x1q, x1r, x1s, x1t, x1u, x1k, x1l, x1m, List.getElem?_cons_zero, List.getElem?_cons_succ, List.set_cons_zero, List.set_cons_succ, List.replicate, List.cons_append, List.nil_append, List.take_succ_cons, List.take_zero, List.getD_cons_zero, List.getD_cons_succ, List.map_cons, List.map_nil, if_true, if_false, Bool.true_and, Bool.and_true, Bool.false_and, Bool.and_false, Bool.true_or, Bool.or_true, Bool.false_or, Bool.or_false, Bool.not_true, Bool.not_false, reduceIte, Bool.false_eq_true, eq_self, Nat.sub_self, sc, noL, noLAll, Option.map_some, Int.toNat_natCast, Nat.reduceSub, Nat.reduceAdd, decide_true, decide_false, List.length_cons, List.length_nil, Int.reduceLT, Int.reduceLE, Int.reduceAdd, Int.reduceMul, Int.reduceSub, Int.reduceNeg, Int.reduceToNat, Int.reducePow, Int.reduceMod, Int.reduceDiv, Int.reduceEq, Nat.reducePow, Nat.reduceMul, Nat.reduceLT, Nat.reduceLeDiff, Int.ofNat_zero, Int.natCast_zero, Int.natCast_one, Int.ofNat_eq_natCast, Int.natCast_nonneg, beq_self_eq_true, Option.isNone_none, Option.isNone_some, Bool.not_eq_true, List.append_nil, Option.bind_some, List.lookup_cons, List.contains_nil, List.contains_cons, h1]
    exact rfl) ?_
  refine Ev.seq (by simp only [x02, x9h, xa1, xa0, x9y, x9z, x9x, x33, x30, x2y, x2z, x32, x31, x52, x50, x4z, x51, x4y, x4w, x4x, xbh, xbm, xbi, xbf, xbg, xbe, xbj, xbl, xbk, xba, xbd, xbb, xbc, x7b, x7c, x7a, x7e, x7d, x78, x79, xb5, xb9, xb6, xb8, xb7, x00, x01, x8j, x8c, x18, x19, x1a, xb3, xb4, x0j, x0g, x0i, x0h, x8d, x8e, x8g, x8f, x82, x83, x84, xat, xar, xas, xal, xak, xap, xao, xan, xam, xeh, x07, x03, x04, x05, x06, x08, x09, x6j, x6c, x6d, x6e, x6f, x6g, x6h, x6i, x2q, x2p, x2r, x2s, xav, xaq, x77, x76, x3m, x3l, xa3, xa4, xab, xac, xad, xae, xaf, xag, xah, xai, xa5, xa6, xa7, xa8, xa9, xaa, xaj, x89, x8a, x8h, x8i, x9m, x9n, x9o, x9p, x9q, x9r, x9s, x6x, x6v, x6w, x20, x1v, x1w, x1y, x1x, x1z, x4v, x4t, x4u, x4q, x4r, x4s, x5b, x1b, x1i, x1h, x1g, x1d, x74, x75, x73, x6z, x6y, x72, x70, x71, x9e, x5k, x5l, x5m, x5n, x8x, x8y, x8z, x90, x91, x92, x93, x2v, x2t, x2u, xei, xej, xek, xel, x8w, x98, x99, xb1, xb2, xb0, xaz, x81, x80, x87, x88, x85, x86, xd1, xd0, x8t, x8s, x6r, x6n, x6p, x6o, x8b, x6k, x6l, x6m, x7z, x1c, x2b, x8v, x9f, x9v, x9w, x9u, x9t, x59, x5a, x8u, x97, x35, x34, x0o, x0a, x0b, x0d, x0c, x0e, x0p, x0q, x0r, x12, x0z, x10, x11, x5o, x5g, x9g, x9a, x9b, x9c, x9d, x0n, x0l, x0m, x36, xef, xeg, x4p, x4o, xax, xay, x53, x55, x54, xaw, xau, x3f, x3e, x3d, x3g, x8p, x8o, x8q, x8r, x7r, x7p, x7q, x7o, x7m, x7k, x7l, x7n, x7i, x7h, x7f, x7g, x14, x16, x17, x15, x13, x1f, x1e, x5j, x5h, x5i, x57, x58, x56, x27, x2a, x29, x28, x9k, x9j, x9l, x9i, x1j, x21, x22, x23, x26, x25, x24, x7v, x7w, x3n, x3h, x3i, x7j, x7s, x7t, x7u, x96, x95, x94, x5e, x5f, x5c, x3p, x3q, x3r, x3s, x3t, x3u, x3v, x3w, x3x, x4a, x4l, x49, x4b, x4c, x3j, x2o, x2j, x2d, x2i, x2m, x2n, x2c, x2h, x2g, x2f, x2e, x2k, x6s, x6u, x6t, x2x, x7y, x2w, x7x, x5u, x5r, x5q, x5v, x5s, x5p, x5t, x6a, x67, x66, x6b, x68, x65, x69, x5z, x5x, x5y, x5w, x60, x64, x63, x61, x62, xbn, xd2, xbt, xd8, xbo, xd3, xbr, xd6, xbp, xd4, xbq, xd5, xbs, xd7, xct, xe8, xcz, xee, xcu, xe9, xcx, xec, xcv, xea, xcw, xeb, xcy, xed, xbu, xd9, xc0, xdf, xbv, xda, xby, xdd, xbw, xdb, xbx, xdc, xbz, xde, xcf, xdu, xcl, xe0, xcg, xdv, xcj, xdy, xch, xdw, xci, xdx, xck, xdz, xc1, xdg, xc7, xdm, xc2, xdh, xc5, xdk, xc3, xdi, xc4, xdj, xc6, xdl, xc8, xdn, xce, xdt, xc9, xdo, xcc, xdr, xca, xdp, xcb, xdq, xcd, xds, xcm, xe1, xcs, xe7, xcn, xe2, xcq, xe5, xco, xe3, xcp, xe4, xcr, xe6, x8k, x8l, x8m, x8n, x0s, x0t, x0u, x0v, x0w, x0x, x0y, x3y, x4n, x41, x4e, x44, x4j, x47, x4g, x4m, x40, x4d, x43, x4i, x46, x4h, x3z, x42, x4f, x45, x4k, x48, x37, x3c, x38, x39, x3a, x3b, x1n, x1o, x1p, x1q, x1r, x1s, x1t, x1u, x1k, x1l, x1m, List.getElem?_cons_zero, List.getElem?_cons_succ, List.set_cons_zero, List.set_cons_succ, List.replicate, List.cons_append, List.nil_append, List.take_succ_cons, List.take_zero, List.getD_cons_zero, List.getD_cons_succ, List.map_cons, List.map_nil, if_true, if_false, Bool.true_and, Bool.and_true, Bool.false_and, Bool.and_false, Bool.true_or, Bool.or_true, Bool.false_or, Bool.or_false, Bool.not_true, Bool.not_false, reduceIte, Bool.false_eq_true, eq_self, Nat.sub_self, sc, noL, noLAll, Option.map_some, Int.toNat_natCast, Nat.reduceSub, Nat.reduceAdd, decide_true, decide_false, List.length_cons, List.length_nil, Int.reduceLT, Int.reduceLE, Int.reduceAdd, Int.reduceMul, Int.reduceSub, Int.reduceNeg, Int.reduceToNat, Int.reducePow, Int.reduceMod, Int.reduceDiv, Int.reduceEq, Nat.reducePow, Nat.reduceMul, Nat.reduceLT, Nat.reduceLeDiff, Int.ofNat_zero, Int.natCast_zero, Int.natCast_one, Int.ofNat_eq_natCast, Int.natCast_nonneg, beq_self_eq_true, Option.isNone_none, Option.isNone_some, Bool.not_eq_true, List.append_nil, Option.bind_some, List.lookup_cons, List.contains_nil, List.contains_cons] <;> exact rfl) ?_
  refine Ev.seq (by simp only [x02, x9h, xa1, xa0, x9y, x9z, x9x, x33, x30, x2y, x2z, x32, x31, x52, x50, x4z, x51, x4y, x4w, x4x, xbh, xbm, xbi, xbf, xbg, xbe, xbj, xbl, xbk, xba, xbd, xbb, xbc, x7b, x7c, x7a, x7e, x7d, x78, x79, xb5, xb9, xb6, xb8, xb7, x00, x01, x8j, x8c, x18, x19, x1a, xb3, xb4, x0j, x0g, x0i, x0h, x8d, x8e, x8g, x8f, x82, x83, x84, xat, xar, xas, xal, xak, xap, xao, xan, xam, xeh, x07, x03, x04, x05, x06, x08, x09, x6j, x6c, x6d, x6e, x6f, x6g, x6h, x6i, x2q, x2p, x2r, x2s, xav, xaq, x77, x76, x3m, x3l, xa3, xa4, xab, xac, xad, xae, xaf, xag, xah, xai, xa5, xa6, xa7, xa8, xa9, xaa, xaj, x89, x8a, x8h, x8i, x9m, x9n, x9o, x9p, x9q, x9r, x9s, x6x, x6v, x6w, x20, x1v, x1w, x1y, x1x, x1z, x4v, x4t, x4u, x4q, x4r, x4s, x5b, x1b, x1i, x1h, x1g, x1d, x74, x75, x73, x6z, x6y, x72, x70, x71, x9e, x5k, x5l, x5m, x5n, x8x, x8y, x8z, x90, x91, x92, x93, x2v, x2t, x2u, xei, xej, xek, xel, x8w, x98, x99, xb1, xb2, xb0, xaz, x81, x80, x87, x88, x85, x86, xd1, xd0, x8t, x8s, x6r, x6n, x6p, x6o, x8b, x6k, x6l, x6m, x7z, x1c, x2b, x8v, x9f, x9v, x9w, x9u, x9t, x59, x5a, x8u, x97, x35, x34, x0o, x0a, x0b, x0d, x0c, x0e, x0p, x0q, x0r, x12, x0z, x10, x11, x5o, x5g, x9g, x9a, x9b, x9c, x9d, x0n, x0l, x0m, x36, xef, xeg, x4p, x4o, xax, xay, x53, x55, x54, xaw, xau, x3f, x3e, x3d, x3g, x8p, x8o, x8q, x8r, x7r, x7p, x7q, x7o, x7m, x7k, x7l, x7n, x7i, x7h, x7f, x7g, x14, x16, x17, x15, x13, x1f, x1e, x5j, x5h, x5i, x57, x58, x56, x27, x2a, x29, x28, x9k, x9j, x9l, x9i, x1j, x21, x22, x23, x26, x25, x24, x7v, x7w, x3n, x3h, x3i, x7j, x7s, x7t, x7u, x96, x95, x94, x5e, x5f, x5c, x3p, x3q, x3r, x3s, x3t, x3u, x3v, x3w, x3x, x4a, x4l, x49, x4b, x4c, x3j, x2o, x2j, x2d, x2i, x2m, x2n, x2c, x2h, x2g, x2f, x2e, x2k, x6s, x6u, x6t, x2x, x7y, x2w, x7x, x5u, x5r, x5q, x5v, x5s, x5p, x5t, x6a, x67, x66, x6b, x68, x65, x69, x5z, x5x, x5y, x5w, x60, x64, x63, x61, x62, xbn, xd2, xbt, xd8, xbo, xd3, xbr, xd6, xbp, xd4, xbq, xd5, xbs, xd7, xct, xe8, xcz, xee, xcu, xe9, xcx, xec, xcv, xea, xcw, xeb, xcy, xed, xbu, xd9, xc0, xdf, xbv, xda, xby, xdd, xbw, xdb, xbx, xdc, xbz, xde, xcf, xdu, xcl, xe0, xcg, xdv, xcj, xdy, xch, xdw, xci, xdx, xck, xdz, xc1, xdg, xc7, xdm, xc2, xdh, xc5, xdk, xc3, xdi, xc4, xdj, xc6, xdl, xc8, xdn, xce, xdt, xc9, xdo, xcc, xdr, xca, xdp, xcb, xdq, xcd, xds, xcm, xe1, xcs, xe7, xcn, xe2, xcq, xe5, xco, xe3, xcp, xe4, xcr, xe6, x8k, x8l, x8m, x8n, x0s, x0t, x0u, x0v, x0w, x0x, x0y, x3y, x4n, x41, x4e, x44, x4j, x47, x4g, x4m, x40, x4d, x43, x4i, x46, x4h, x3z, x42, x4f, x45, x4k, x48, x37, x3c, x38, x39, x3a, x3b, x1n, x1o, x1p, x1q, x1r, x1s, x1t, x1u, x1k, x1l, x1m, List.getElem?_cons_zero, List.getElem?_cons_succ, List.set_cons_zero, List.set_cons_succ, List.replicate, List.cons_append, List.nil_append, List.take_succ_cons, List.take_zero, List.getD_cons_zero, List.getD_cons_succ, List.map_cons, List.map_nil, if_true, if_false, Bool.true_and, Bool.and_true, Bool.false_and, Bool.and_false, Bool.true_or, Bool.or_true, Bool.false_or, Bool.or_false, Bool.not_true, Bool.not_false, reduceIte, Bool.false_eq_true, eq_self, Nat.sub_self, sc, noL, noLAll, Option.map_some, Int.toNat_natCast, Nat.reduceSub, Nat.reduceAdd, decide_true, decide_false, List.length_cons, List.length_nil, Int.reduceLT, Int.reduceLE, Int.reduceAdd, Int.reduceMul, Int.reduceSub, Int.reduceNeg, Int.reduceToNat, Int.reducePow, Int.reduceMod, Int.reduceDiv, Int.reduceEq, Nat.reducePow, Nat.reduceMul, Nat.reduceLT, Nat.reduceLeDiff, Int.ofNat_zero, Int.natCast_zero, Int.natCast_one, Int.ofNat_eq_natCast, Int.natCast_nonneg, beq_self_eq_true, Option.isNone_none, Option.isNone_some, Bool.not_eq_true, List.append_nil, Option.bind_some, List.lookup_cons, List.contains_nil, List.contains_cons] <;> exact rfl) ?_
  have okr := rowsOf_ok (b := b) oki lt1
  obtain ⟨e, h2, t13, t14, ⟨f13, f14⟩, he⟩ := forLoop_inv (tg := .nm 13) (body := lp_law_2) (f := true) dPart (fun pre e => ∃ t13 t14, (frS (some t13) = true ∧ frS (some t14) = true) ∧ e = [.s ns, .v true (.int mx), .v true (.int many), .o false false true (sh.map dOB), .o false false true (wo.map .bool), .v true (.list (its.map dItem)), .v true (.int (worthOf its (leftOf sh wo))), .v true (.int (worthOf its (insOf sh))), .v true (.int b), .o false true true ((rowsOf b its ts).map dPart), t10, .o false false true (its.map dItem), .o false false true [dS sh, dB wo], t13, t14, .u, .u]) (rowsOf b its ts) (fun pre p post e hx ⟨t13, t14, ⟨f13, f14⟩, he⟩ => by
    subst he
    have hp := okr p (by rw [hx]; simp)
    obtain ⟨fl, g1⟩ := r_lost p sh wo (by rw [lsh]; exact hp) (by rw [lsh, lwo])
    have g2 := r_llost p sh wo (by rw [lsh]; exact hp) (by rw [lsh, lwo])
    refine ⟨_, ?_, .v true (dPart p), .v fl (.bool (p.lost sh wo)), ⟨rfl, rfl⟩, rfl⟩
    unfold lp_law_2 if_law_2
    simp only [x02, x9h, xa1, xa0, x9y, x9z, x9x, x33, x30, x2y, x2z, x32, x31, x52, x50, x4z, x51, x4y, x4w, x4x, xbh, xbm, xbi, xbf, xbg, xbe, xbj, xbl, xbk, xba, xbd, xbb, xbc, x7b, x7c, x7a, x7e, x7d, x78, x79, xb5, xb9, xb6, xb8, xb7, x00, x01, x8j, x8c, x18, x19, x1a, xb3, xb4, x0j, x0g, x0i, x0h, x8d, x8e, x8g, x8f, x82, x83, x84, xat, xar, xas, xal, xak, xap, xao, xan, xam, xeh, x07, x03, x04, x05, x06, x08, x09, x6j, x6c, x6d, x6e, x6f, x6g, x6h, x6i, x2q, x2p, x2r, x2s, xav, xaq, x77, x76, x3m, x3l, xa3, xa4, xab, xac, xad, xae, xaf, xag, xah, xai, xa5, xa6, xa7, xa8, xa9, xaa, xaj, x89, x8a, x8h, x8i, x9m, x9n, x9o, x9p, x9q, x9r, x9s, x6x, x6v, x6w, x20, x1v, x1w, x1y, x1x, x1z, x4v, x4t, x4u, x4q, x4r, x4s, x5b, x1b, x1i, x1h, x1g, x1d, x74, x75, x73, x6z, x6y, x72, x70, x71, x9e, x5k, x5l, x5m, x5n, x8x, x8y, x8z, x90, x91, x92, x93, x2v, x2t, x2u, xei, xej, xek, xel, x8w, x98, x99, xb1, xb2, xb0, xaz, x81, x80, x87, x88, x85, x86, xd1, xd0, x8t, x8s, x6r, x6n, x6p, x6o, x8b, x6k, x6l, x6m, x7z, x1c, x2b, x8v, x9f, x9v, x9w, x9u, x9t, x59, x5a, x8u, x97, x35, x34, x0o, x0a, x0b, x0d, x0c, x0e, x0p, x0q, x0r, x12, x0z, x10, x11, x5o, x5g, x9g, x9a, x9b, x9c, x9d, x0n, x0l, x0m, x36, xef, xeg, x4p, x4o, xax, xay, x53, x55, x54, xaw, xau, x3f, x3e, x3d, x3g, x8p, x8o, x8q, x8r, x7r, x7p, x7q, x7o, x7m, x7k, x7l, x7n, x7i, x7h, x7f, x7g, x14, x16, x17, x15, x13, x1f, x1e, x5j, x5h, x5i, x57, x58, x56, x27, x2a, x29, x28, x9k, x9j, x9l, x9i, x1j, x21, x22, x23, x26, x25, x24, x7v, x7w, x3n, x3h, x3i, x7j, x7s, x7t, x7u, x96, x95, x94, x5e, x5f, x5c, x3p, x3q, x3r, x3s, x3t, x3u, x3v, x3w, x3x, x4a, x4l, x49, x4b, x4c, x3j, x2o, x2j, x2d, x2i, x2m, x2n, x2c, x2h, x2g, x2f, x2e, x2k, x6s, x6u, x6t, x2x, x7y, x2w, x7x, x5u, x5r, x5q, x5v, x5s, x5p, x5t, x6a, x67, x66, x6b, x68, x65, x69, x5z, x5x, x5y, x5w, x60, x64, x63, x61, x62, xbn, xd2, xbt, xd8, xbo, xd3, xbr, xd6, xbp, xd4, xbq, xd5, xbs, xd7, xct, xe8, xcz, xee, xcu, xe9, xcx, xec, xcv, xea, xcw, xeb, xcy, xed, xbu, xd9, xc0, xdf, xbv, xda, xby, xdd, xbw, xdb, xbx, xdc, xbz, xde, xcf, xdu, xcl, xe0, xcg, xdv, xcj, xdy, xch, xdw, xci, xdx, xck, xdz, xc1, xdg, xc7, xdm, xc2, xdh, xc5, xdk, xc3, xdi, xc4, xdj, xc6, xdl, xc8, xdn, xce, xdt, xc9, xdo, xcc, xdr, xca, xdp, xcb, xdq, xcd, xds, xcm, xe1, xcs, xe7, xcn, xe2, xcq, xe5, xco, xe3, xcp, xe4, xcr, xe6, x8k, x8l, x8m, x8n, x0s, x0t, x0u, x0v, x0w, x0x, x0y, x3y, x4n, x41, x4e, x44, x4j, x47, x4g, x4m, x40, x4d, x43, x4i, x46, x4h, x3z, x42, x4f, x45, x4k, x48, x37, x3c, x38, x39, x3a, x3b, x1n, x1o, x1p, x1q, x1r, x1s, x1t, x1u, x1k, x1l, x1m, List.getElem?_cons_zero, List.getElem?_cons_succ, List.set_cons_zero, List.set_cons_succ, List.replicate, List.cons_append, List.nil_append, List.take_succ_cons, List.take_zero, List.getD_cons_zero, List.getD_cons_succ, List.map_cons, List.map_nil, if_true, if_false, Bool.true_and, Bool.and_true, Bool.false_and, Bool.and_false, Bool.true_or, Bool.or_true, Bool.false_or, Bool.or_false, Bool.not_true, Bool.not_false, reduceIte, Bool.false_eq_true, eq_self, Nat.sub_self, sc, noL, noLAll, Option.map_some, Int.toNat_natCast, Nat.reduceSub, Nat.reduceAdd, decide_true, decide_false, List.length_cons, List.length_nil, Int.reduceLT, Int.reduceLE, Int.reduceAdd, Int.reduceMul, Int.reduceSub, Int.reduceNeg, Int.reduceToNat, Int.reducePow, Int.reduceMod, Int.reduceDiv, Int.reduceEq, Nat.reducePow, Nat.reduceMul, Nat.reduceLT, Nat.reduceLeDiff, Int.ofNat_zero, Int.natCast_zero, Int.natCast_one, Int.ofNat_eq_natCast, Int.natCast_nonneg, beq_self_eq_true, Option.isNone_none, Option.isNone_some, Bool.not_eq_true, List.append_nil, Option.bind_some, List.lookup_cons, List.contains_nil, List.contains_cons, f13, f14, r_part_of, noM_lost, tabM_lost, g1, g2, r_right]) _ ⟨.u, .u, ⟨rfl, rfl⟩, rfl⟩
  subst he
  refine Ev.seq (by simp only [x02, x9h, xa1, xa0, x9y, x9z, x9x, x33, x30, x2y, x2z, x32, x31, x52, x50, x4z, x51, x4y, x4w, x4x, xbh, xbm, xbi, xbf, xbg, xbe, xbj, xbl, xbk, xba, xbd, xbb, xbc, x7b, x7c, x7a, x7e, x7d, x78, x79, xb5, xb9, xb6, xb8, xb7, x00, x01, x8j, x8c, x18, x19, x1a, xb3, xb4, x0j, x0g, x0i, x0h, x8d, x8e, x8g, x8f, x82, x83, x84, xat, xar, xas, xal, xak, xap, xao, xan, xam, xeh, x07, x03, x04, x05, x06, x08, x09, x6j, x6c, x6d, x6e, x6f, x6g, x6h, x6i, x2q, x2p, x2r, x2s, xav, xaq, x77, x76, x3m, x3l, xa3, xa4, xab, xac, xad, xae, xaf, xag, xah, xai, xa5, xa6, xa7, xa8, xa9, xaa, xaj, x89, x8a, x8h, x8i, x9m, x9n, x9o, x9p, x9q, x9r, x9s, x6x, x6v, x6w, x20, x1v, x1w, x1y, x1x, x1z, x4v, x4t, x4u, x4q, x4r, x4s, x5b, x1b, x1i, x1h, x1g, x1d, x74, x75, x73, x6z, x6y, x72, x70, x71, x9e, x5k, x5l, x5m, x5n, x8x, x8y, x8z, x90, x91, x92, x93, x2v, x2t, x2u, xei, xej, xek, xel, x8w, x98, x99, xb1, xb2, xb0, xaz, x81, x80, x87, x88, x85, x86, xd1, xd0, x8t, x8s, x6r, x6n, x6p, x6o, x8b, x6k, x6l, x6m, x7z, x1c, x2b, x8v, x9f, x9v, x9w, x9u, x9t, x59, x5a, x8u, x97, x35, x34, x0o, x0a, x0b, x0d, x0c, x0e, x0p, x0q, x0r, x12, x0z, x10, x11, x5o, x5g, x9g, x9a, x9b, x9c, x9d, x0n, x0l, x0m, x36, xef, xeg, x4p, x4o, xax, xay, x53, x55, x54, xaw, xau, x3f, x3e, x3d, x3g, x8p, x8o, x8q, x8r, x7r, x7p, x7q, x7o, x7m, x7k, x7l, x7n, x7i, x7h, x7f, x7g, x14, x16, x17, x15, x13, x1f, x1e, x5j, x5h, x5i, x57, x58, x56, x27, x2a, x29, x28, x9k, x9j, x9l, x9i, x1j, x21, x22, x23, x26, x25, x24, x7v, x7w, x3n, x3h, x3i, x7j, x7s, x7t, x7u, x96, x95, x94, x5e, x5f, x5c, x3p, x3q, x3r, x3s, x3t, x3u, x3v, x3w, x3x, x4a, x4l, x49, x4b, x4c, x3j, x2o, x2j, x2d, x2i, x2m, x2n, x2c, x2h, x2g, x2f, x2e, x2k, x6s, x6u, x6t, x2x, x7y, x2w, x7x, x5u, x5r, x5q, x5v, x5s, x5p, x5t, x6a, x67, x66, x6b, x68, x65, x69, x5z, x5x, x5y, x5w, x60, x64, x63, x61, x62, xbn, xd2, xbt, xd8, xbo, xd3, xbr, xd6, xbp, xd4, xbq, xd5, xbs, xd7, xct, xe8, xcz, xee, xcu, xe9, xcx, xec, xcv, xea, xcw, xeb, xcy, xed, xbu, xd9, xc0, xdf, xbv, xda, xby, xdd, xbw, xdb, xbx, xdc, xbz, xde, xcf, xdu, xcl, xe0, xcg, xdv, xcj, xdy, xch, xdw, xci, xdx, xck, xdz, xc1, xdg, xc7, xdm, xc2, xdh, xc5, xdk, xc3, xdi, xc4, xdj, xc6, xdl, xc8, xdn, xce, xdt, xc9, xdo, xcc, xdr, xca, xdp, xcb, xdq, xcd, xds, xcm, xe1, xcs, xe7, xcn, xe2, xcq, xe5, xco, xe3, xcp, xe4, xcr, xe6, x8k, x8l, x8m, x8n, x0s, x0t, x0u, x0v, x0w, x0x, x0y, x3y, x4n, x41, x4e, x44, x4j, x47, x4g, x4m, x40, x4d, x43, x4i, x46, x4h, x3z, x42, x4f, x45, x4k, x48, x37, x3c, x38, x39, x3a, x3b, x1n, x1o, x1p, x1q, x1r, x1s, x1t, x1u, x1k, x1l, x1m, List.getElem?_cons_zero, List.getElem?_cons_succ, List.set_cons_zero, List.set_cons_succ, List.replicate, List.cons_append, List.nil_append, List.take_succ_cons, List.take_zero, List.getD_cons_zero, List.getD_cons_succ, List.map_cons, List.map_nil, if_true, if_false, Bool.true_and, Bool.and_true, Bool.false_and, Bool.and_false, Bool.true_or, Bool.or_true, Bool.false_or, Bool.or_false, Bool.not_true, Bool.not_false, reduceIte, Bool.false_eq_true, eq_self, Nat.sub_self, sc, noL, noLAll, Option.map_some, Int.toNat_natCast, Nat.reduceSub, Nat.reduceAdd, decide_true, decide_false, List.length_cons, List.length_nil, Int.reduceLT, Int.reduceLE, Int.reduceAdd, Int.reduceMul, Int.reduceSub, Int.reduceNeg, Int.reduceToNat, Int.reducePow, Int.reduceMod, Int.reduceDiv, Int.reduceEq, Nat.reducePow, Nat.reduceMul, Nat.reduceLT, Nat.reduceLeDiff, Int.ofNat_zero, Int.natCast_zero, Int.natCast_one, Int.ofNat_eq_natCast, Int.natCast_nonneg, beq_self_eq_true, Option.isNone_none, Option.isNone_some, Bool.not_eq_true, List.append_nil, Option.bind_some, List.lookup_cons, List.contains_nil, List.contains_cons, h2] <;> exact rfl) ?_
  exact Ev.ret (by simp only [x02, x9h, xa1, xa0, x9y, x9z, x9x, x33, x30, x2y, x2z, x32, x31, x52, x50, x4z, x51, x4y, x4w, x4x, xbh, xbm, xbi, xbf, xbg, xbe, xbj, xbl, xbk, xba, xbd, xbb, xbc, x7b, x7c, x7a, x7e, x7d, x78, x79, xb5, xb9, xb6, xb8, xb7, x00, x01, x8j, x8c, x18, x19, x1a, xb3, xb4, x0j, x0g, x0i, x0h, x8d, x8e, x8g, x8f, x82, x83, x84, xat, xar, xas, xal, xak, xap, xao, xan, xam, xeh, x07, x03, x04, x05, x06, x08, x09, x6j, x6c, x6d, x6e, x6f, x6g, x6h, x6i, x2q, x2p, x2r, x2s, xav, xaq, x77, x76, x3m, x3l, xa3, xa4, xab, xac, xad, xae, xaf, xag, xah, xai, xa5, xa6, xa7, xa8, xa9, xaa, xaj, x89, x8a, x8h, x8i, x9m, x9n, x9o, x9p, x9q, x9r, x9s, x6x, x6v, x6w, x20, x1v, x1w, x1y, x1x, x1z, x4v, x4t, x4u, x4q, x4r, x4s, x5b, x1b, x1i, x1h, x1g, x1d, x74, x75, x73, x6z, x6y, x72, x70, x71, x9e, x5k, x5l, x5m, x5n, x8x, x8y, x8z, x90, x91, x92, x93, x2v, x2t, x2u, xei, xej, xek, xel, x8w, x98, x99, xb1, xb2, xb0, xaz, x81, x80, x87, x88, x85, x86, xd1, xd0, x8t, x8s, x6r, x6n, x6p, x6o, x8b, x6k, x6l, x6m, x7z, x1c, x2b, x8v, x9f, x9v, x9w, x9u, x9t, x59, x5a, x8u, x97, x35, x34, x0o, x0a, x0b, x0d, x0c, x0e, x0p, x0q, x0r, x12, x0z, x10, x11, x5o, x5g, x9g, x9a, x9b, x9c, x9d, x0n, x0l, x0m, x36, xef, xeg, x4p, x4o, xax, xay, x53, x55, x54, xaw, xau, x3f, x3e, x3d, x3g, x8p, x8o, x8q, x8r, x7r, x7p, x7q, x7o, x7m, x7k, x7l, x7n, x7i, x7h, x7f, x7g, x14, x16, x17, x15, x13, x1f, x1e, x5j, x5h, x5i, x57, x58, x56, x27, x2a, x29, x28, x9k, x9j, x9l, x9i, x1j, x21, x22, x23, x26, x25, x24, x7v, x7w, x3n, x3h, x3i, x7j, x7s, x7t, x7u, x96, x95, x94, x5e, x5f, x5c, x3p, x3q, x3r, x3s, x3t, x3u, x3v, x3w, x3x, x4a, x4l, x49, x4b, x4c, x3j, x2o, x2j, x2d, x2i, x2m, x2n, x2c, x2h, x2g, x2f, x2e, x2k, x6s, x6u, x6t, x2x, x7y, x2w, x7x, x5u, x5r, x5q, x5v, x5s, x5p, x5t, x6a, x67, x66, x6b, x68, x65, x69, x5z, x5x, x5y, x5w, x60, x64, x63, x61, x62, xbn, xd2, xbt, xd8, xbo, xd3, xbr, xd6, xbp, xd4, xbq, xd5, xbs, xd7, xct, xe8, xcz, xee, xcu, xe9, xcx, xec, xcv, xea, xcw, xeb, xcy, xed, xbu, xd9, xc0, xdf, xbv, xda, xby, xdd, xbw, xdb, xbx, xdc, xbz, xde, xcf, xdu, xcl, xe0, xcg, xdv, xcj, xdy, xch, xdw, xci, xdx, xck, xdz, xc1, xdg, xc7, xdm, xc2, xdh, xc5, xdk, xc3, xdi, xc4, xdj, xc6, xdl, xc8, xdn, xce, xdt, xc9, xdo, xcc, xdr, xca, xdp, xcb, xdq, xcd, xds, xcm, xe1, xcs, xe7, xcn, xe2, xcq, xe5, xco, xe3, xcp, xe4, xcr, xe6, x8k, x8l, x8m, x8n, x0s, x0t, x0u, x0v, x0w, x0x, x0y, x3y, x4n, x41, x4e, x44, x4j, x47, x4g, x4m, x40, x4d, x43, x4i, x46, x4h, x3z, x42, x4f, x45, x4k, x48, x37, x3c, x38, x39, x3a, x3b, x1n, x1o, x1p, x1q, x1r, x1s, x1t, x1u, x1k, x1l, x1m, List.getElem?_cons_zero, List.getElem?_cons_succ, List.set_cons_zero, List.set_cons_succ, List.replicate, List.cons_append, List.nil_append, List.take_succ_cons, List.take_zero, List.getD_cons_zero, List.getD_cons_succ, List.map_cons, List.map_nil, if_true, if_false, Bool.true_and, Bool.and_true, Bool.false_and, Bool.and_false, Bool.true_or, Bool.or_true, Bool.false_or, Bool.or_false, Bool.not_true, Bool.not_false, reduceIte, Bool.false_eq_true, eq_self, Nat.sub_self, sc, noL, noLAll, Option.map_some, Int.toNat_natCast, Nat.reduceSub, Nat.reduceAdd, decide_true, decide_false, List.length_cons, List.length_nil, Int.reduceLT, Int.reduceLE, Int.reduceAdd, Int.reduceMul, Int.reduceSub, Int.reduceNeg, Int.reduceToNat, Int.reducePow, Int.reduceMod, Int.reduceDiv, Int.reduceEq, Nat.reducePow, Nat.reduceMul, Nat.reduceLT, Nat.reduceLeDiff, Int.ofNat_zero, Int.natCast_zero, Int.natCast_one, Int.ofNat_eq_natCast, Int.natCast_nonneg, beq_self_eq_true, Option.isNone_none, Option.isNone_some, Bool.not_eq_true, List.append_nil, Option.bind_some, List.lookup_cons, List.contains_nil, List.contains_cons, eq_items, eq_sm] <;> exact rfl) ⟨_, _, rfl⟩
end My
namespace My
open PySem PySem.Spec PyProof.Rows L2 DL
/-! ### what the top has written -/
theorem all_mk {l : PySem.W.OpenLaw} {w : World} {K : PySem.W.Frag} {h : Heap} {mg : Str → Option Value} {fa : Addr} (X : K.In h) (G : h.Ns mainGlobals mg) (hfa : mg "law" = some (.ref fa))
    {CIn : Addr} (aIn : PySem.W.nsIn K mainGlobals "In" = some (some (.ref CIn))) (pgIn : PySem.W.plainGet K CIn Str.empty = true) (hdIn : PySem.W.hasDictIn K CIn = true) (poIn : PySem.W.plainOver K CIn = true) (saIn : PySem.W.findIn K (.ref CIn) "__setattr__" = some (some (.builtin "object.__setattr__"))) (mkIn : PySem.W.makesIn K CIn = true) (kcIn : PySem.W.keepIn K (.ref CIn) = true)
    (nInthing : PySem.W.findIn K (.ref CIn) "thing" = some none)
    {COut : Addr} (aOut : PySem.W.nsIn K mainGlobals "Out" = some (some (.ref COut))) (pgOut : PySem.W.plainGet K COut Str.empty = true) (hdOut : PySem.W.hasDictIn K COut = true) (poOut : PySem.W.plainOver K COut = true) (saOut : PySem.W.findIn K (.ref COut) "__setattr__" = some (some (.builtin "object.__setattr__"))) (mkOut : PySem.W.makesIn K COut = true) (kcOut : PySem.W.keepIn K (.ref COut) = true)
    (nOutthing : PySem.W.findIn K (.ref COut) "thing" = some none)
    {CLeast : Addr} (aLeast : PySem.W.nsIn K mainGlobals "Least" = some (some (.ref CLeast))) (pgLeast : PySem.W.plainGet K CLeast Str.empty = true) (hdLeast : PySem.W.hasDictIn K CLeast = true) (poLeast : PySem.W.plainOver K CLeast = true) (saLeast : PySem.W.findIn K (.ref CLeast) "__setattr__" = some (some (.builtin "object.__setattr__"))) (mkLeast : PySem.W.makesIn K CLeast = true) (kcLeast : PySem.W.keepIn K (.ref CLeast) = true)
    (nLeastbound : PySem.W.findIn K (.ref CLeast) "bound" = some none)
    (nLeastweighed : PySem.W.findIn K (.ref CLeast) "weighed" = some none)
    {CMost : Addr} (aMost : PySem.W.nsIn K mainGlobals "Most" = some (some (.ref CMost))) (pgMost : PySem.W.plainGet K CMost Str.empty = true) (hdMost : PySem.W.hasDictIn K CMost = true) (poMost : PySem.W.plainOver K CMost = true) (saMost : PySem.W.findIn K (.ref CMost) "__setattr__" = some (some (.builtin "object.__setattr__"))) (mkMost : PySem.W.makesIn K CMost = true) (kcMost : PySem.W.keepIn K (.ref CMost) = true)
    (nMostbound : PySem.W.findIn K (.ref CMost) "bound" = some none)
    (nMostweighed : PySem.W.findIn K (.ref CMost) "weighed" = some none)
    {f0 : Addr} {od0 an0 : Option Addr} {sl0 : Array (Option Value)} {oc0 kV0 dc0 pm0 cd0 ct0 : Value}
    (a0 : PySem.W.nsIn K mainGlobals "_law_mixed" = some (some (.ref f0)))
    (l0 : K.lookup f0 = some ⟨oc0, od0, .func (PySem.W.fnOf "_law_mixed" "_law_mixed" (defArgs s_l_mixed) (defBody s_l_mixed) (defScope s_l_mixed) .none kV0 dc0 pm0 an0 cd0 ct0), sl0⟩) (c0 : PySem.W.codeIn K cd0 "_law_mixed" = true) (k0 : PySem.W.keepIn K (.ref f0) = true)
    {f1 : Addr} {od1 an1 : Option Addr} {sl1 : Array (Option Value)} {oc1 kV1 dc1 pm1 cd1 ct1 : Value}
    (a1 : PySem.W.nsIn K mainGlobals "_law_cell_at" = some (some (.ref f1)))
    (l1 : K.lookup f1 = some ⟨oc1, od1, .func (PySem.W.fnOf "_law_cell_at" "_law_cell_at" (defArgs s_l_cell_at) (defBody s_l_cell_at) (defScope s_l_cell_at) .none kV1 dc1 pm1 an1 cd1 ct1), sl1⟩) (c1 : PySem.W.codeIn K cd1 "_law_cell_at" = true) (k1 : PySem.W.keepIn K (.ref f1) = true)
    {f2 : Addr} {od2 an2 : Option Addr} {sl2 : Array (Option Value)} {oc2 kV2 dc2 pm2 cd2 ct2 : Value}
    (a2 : PySem.W.nsIn K mainGlobals "_law_truths" = some (some (.ref f2)))
    (l2 : K.lookup f2 = some ⟨oc2, od2, .func (PySem.W.fnOf "_law_truths" "_law_truths" (defArgs s_l_truths) (defBody s_l_truths) (defScope s_l_truths) .none kV2 dc2 pm2 an2 cd2 ct2), sl2⟩) (c2 : PySem.W.codeIn K cd2 "_law_truths" = true) (k2 : PySem.W.keepIn K (.ref f2) = true)
    {f3 : Addr} {od3 an3 : Option Addr} {sl3 : Array (Option Value)} {oc3 kV3 dc3 pm3 cd3 ct3 : Value}
    (a3 : PySem.W.nsIn K mainGlobals "_law_sheet" = some (some (.ref f3)))
    (l3 : K.lookup f3 = some ⟨oc3, od3, .func (PySem.W.fnOf "_law_sheet" "_law_sheet" (defArgs s_l_sheet) (defBody s_l_sheet) (defScope s_l_sheet) .none kV3 dc3 pm3 an3 cd3 ct3), sl3⟩) (c3 : PySem.W.codeIn K cd3 "_law_sheet" = true) (k3 : PySem.W.keepIn K (.ref f3) = true)
    {f4 : Addr} {od4 an4 : Option Addr} {sl4 : Array (Option Value)} {oc4 kV4 dc4 pm4 cd4 ct4 : Value}
    (a4 : PySem.W.nsIn K mainGlobals "_law_items" = some (some (.ref f4)))
    (l4 : K.lookup f4 = some ⟨oc4, od4, .func (PySem.W.fnOf "_law_items" "_law_items" (defArgs s_l_items) (defBody s_l_items) (defScope s_l_items) .none kV4 dc4 pm4 an4 cd4 ct4), sl4⟩) (c4 : PySem.W.codeIn K cd4 "_law_items" = true) (k4 : PySem.W.keepIn K (.ref f4) = true)
    {f5 : Addr} {od5 an5 : Option Addr} {sl5 : Array (Option Value)} {oc5 kV5 dc5 pm5 cd5 ct5 : Value}
    (a5 : PySem.W.nsIn K mainGlobals "_law_free" = some (some (.ref f5)))
    (l5 : K.lookup f5 = some ⟨oc5, od5, .func (PySem.W.fnOf "_law_free" "_law_free" (defArgs s_l_free) (defBody s_l_free) (defScope s_l_free) .none kV5 dc5 pm5 an5 cd5 ct5), sl5⟩) (c5 : PySem.W.codeIn K cd5 "_law_free" = true) (k5 : PySem.W.keepIn K (.ref f5) = true)
    {f6 : Addr} {od6 an6 : Option Addr} {sl6 : Array (Option Value)} {oc6 kV6 dc6 pm6 cd6 ct6 : Value}
    (a6 : PySem.W.findIn K (.ref CIn) "__init__" = some (some (.ref f6))) (i6 : PySem.W.isFn K (.ref f6) = true)
    (l6 : K.lookup f6 = some ⟨oc6, od6, .func (PySem.W.fnOf "__init__" "In.__init__" (defArgs s_In___init__) (defBody s_In___init__) (defScope s_In___init__) .none kV6 dc6 pm6 an6 cd6 ct6), sl6⟩) (c6 : PySem.W.codeIn K cd6 "In.__init__" = true) (k6 : PySem.W.keepIn K (.ref f6) = true)
    {f7 : Addr} {od7 an7 : Option Addr} {sl7 : Array (Option Value)} {oc7 kV7 dc7 pm7 cd7 ct7 : Value}
    (a7 : PySem.W.findIn K (.ref COut) "__init__" = some (some (.ref f7))) (i7 : PySem.W.isFn K (.ref f7) = true)
    (l7 : K.lookup f7 = some ⟨oc7, od7, .func (PySem.W.fnOf "__init__" "Out.__init__" (defArgs s_Out___init__) (defBody s_Out___init__) (defScope s_Out___init__) .none kV7 dc7 pm7 an7 cd7 ct7), sl7⟩) (c7 : PySem.W.codeIn K cd7 "Out.__init__" = true) (k7 : PySem.W.keepIn K (.ref f7) = true)
    {f8 : Addr} {od8 an8 : Option Addr} {sl8 : Array (Option Value)} {oc8 kV8 dc8 pm8 cd8 ct8 : Value}
    (a8 : PySem.W.findIn K (.ref CLeast) "__init__" = some (some (.ref f8))) (i8 : PySem.W.isFn K (.ref f8) = true)
    (l8 : K.lookup f8 = some ⟨oc8, od8, .func (PySem.W.fnOf "__init__" "Least.__init__" (defArgs s_Least___init__) (defBody s_Least___init__) (defScope s_Least___init__) .none kV8 dc8 pm8 an8 cd8 ct8), sl8⟩) (c8 : PySem.W.codeIn K cd8 "Least.__init__" = true) (k8 : PySem.W.keepIn K (.ref f8) = true)
    {f9 : Addr} {od9 an9 : Option Addr} {sl9 : Array (Option Value)} {oc9 kV9 dc9 pm9 cd9 ct9 : Value}
    (a9 : PySem.W.findIn K (.ref CMost) "__init__" = some (some (.ref f9))) (i9 : PySem.W.isFn K (.ref f9) = true)
    (l9 : K.lookup f9 = some ⟨oc9, od9, .func (PySem.W.fnOf "__init__" "Most.__init__" (defArgs s_Most___init__) (defBody s_Most___init__) (defScope s_Most___init__) .none kV9 dc9 pm9 an9 cd9 ct9), sl9⟩) (c9 : PySem.W.codeIn K cd9 "Most.__init__" = true) (k9 : PySem.W.keepIn K (.ref f9) = true)
    {f10 : Addr} {od10 an10 : Option Addr} {sl10 : Array (Option Value)} {oc10 kV10 dc10 pm10 cd10 ct10 : Value}
    (a10 : PySem.W.nsIn K mainGlobals "part_of" = some (some (.ref f10)))
    (l10 : K.lookup f10 = some ⟨oc10, od10, .func (PySem.W.fnOf "part_of" "part_of" (defArgs s_part_of) (defBody s_part_of) (defScope s_part_of) .none kV10 dc10 pm10 an10 cd10 ct10), sl10⟩) (c10 : PySem.W.codeIn K cd10 "part_of" = true) (k10 : PySem.W.keepIn K (.ref f10) = true)
    {f11 : Addr} {od11 an11 : Option Addr} {sl11 : Array (Option Value)} {oc11 kV11 dc11 pm11 cd11 ct11 : Value}
    (a11 : PySem.W.nsIn K mainGlobals "_law_right" = some (some (.ref f11)))
    (l11 : K.lookup f11 = some ⟨oc11, od11, .func (PySem.W.fnOf "_law_right" "_law_right" (defArgs s_l_right) (defBody s_l_right) (defScope s_l_right) .none kV11 dc11 pm11 an11 cd11 ct11), sl11⟩) (c11 : PySem.W.codeIn K cd11 "_law_right" = true) (k11 : PySem.W.keepIn K (.ref f11) = true)
    {f12 : Addr} {od12 an12 : Option Addr} {sl12 : Array (Option Value)} {oc12 kV12 dc12 pm12 cd12 ct12 : Value}
    (a12 : PySem.W.nsIn K mainGlobals "_law_lost" = some (some (.ref f12)))
    (l12 : K.lookup f12 = some ⟨oc12, od12, .func (PySem.W.fnOf "_law_lost" "_law_lost" (defArgs s_l_lost) (defBody s_l_lost) (defScope s_l_lost) .none kV12 dc12 pm12 an12 cd12 ct12), sl12⟩) (c12 : PySem.W.codeIn K cd12 "_law_lost" = true) (k12 : PySem.W.keepIn K (.ref f12) = true)
    {f13 : Addr} {od13 an13 : Option Addr} {sl13 : Array (Option Value)} {oc13 kV13 dc13 pm13 cd13 ct13 : Value}
    (a13 : PySem.W.findIn K (.ref CIn) "lost" = some (some (.ref f13))) (i13 : PySem.W.isFn K (.ref f13) = true)
    (l13 : K.lookup f13 = some ⟨oc13, od13, .func (PySem.W.fnOf "lost" "In.lost" (defArgs s_In_lost) (defBody s_In_lost) (defScope s_In_lost) .none kV13 dc13 pm13 an13 cd13 ct13), sl13⟩) (c13 : PySem.W.codeIn K cd13 "In.lost" = true) (k13 : PySem.W.keepIn K (.ref f13) = true)
    {f14 : Addr} {od14 an14 : Option Addr} {sl14 : Array (Option Value)} {oc14 kV14 dc14 pm14 cd14 ct14 : Value}
    (a14 : PySem.W.findIn K (.ref COut) "lost" = some (some (.ref f14))) (i14 : PySem.W.isFn K (.ref f14) = true)
    (l14 : K.lookup f14 = some ⟨oc14, od14, .func (PySem.W.fnOf "lost" "Out.lost" (defArgs s_Out_lost) (defBody s_Out_lost) (defScope s_Out_lost) .none kV14 dc14 pm14 an14 cd14 ct14), sl14⟩) (c14 : PySem.W.codeIn K cd14 "Out.lost" = true) (k14 : PySem.W.keepIn K (.ref f14) = true)
    {f15 : Addr} {od15 an15 : Option Addr} {sl15 : Array (Option Value)} {oc15 kV15 dc15 pm15 cd15 ct15 : Value}
    (a15 : PySem.W.nsIn K mainGlobals "worth_of" = some (some (.ref f15)))
    (l15 : K.lookup f15 = some ⟨oc15, od15, .func (PySem.W.fnOf "worth_of" "worth_of" (defArgs s_worth_of) (defBody s_worth_of) (defScope s_worth_of) .none kV15 dc15 pm15 an15 cd15 ct15), sl15⟩) (c15 : PySem.W.codeIn K cd15 "worth_of" = true) (k15 : PySem.W.keepIn K (.ref f15) = true)
    {f16 : Addr} {od16 an16 : Option Addr} {sl16 : Array (Option Value)} {oc16 kV16 dc16 pm16 cd16 ct16 : Value}
    (a16 : PySem.W.findIn K (.ref CLeast) "lost" = some (some (.ref f16))) (i16 : PySem.W.isFn K (.ref f16) = true)
    (l16 : K.lookup f16 = some ⟨oc16, od16, .func (PySem.W.fnOf "lost" "Least.lost" (defArgs s_Least_lost) (defBody s_Least_lost) (defScope s_Least_lost) .none kV16 dc16 pm16 an16 cd16 ct16), sl16⟩) (c16 : PySem.W.codeIn K cd16 "Least.lost" = true) (k16 : PySem.W.keepIn K (.ref f16) = true)
    {f17 : Addr} {od17 an17 : Option Addr} {sl17 : Array (Option Value)} {oc17 kV17 dc17 pm17 cd17 ct17 : Value}
    (a17 : PySem.W.findIn K (.ref CMost) "lost" = some (some (.ref f17))) (i17 : PySem.W.isFn K (.ref f17) = true)
    (l17 : K.lookup f17 = some ⟨oc17, od17, .func (PySem.W.fnOf "lost" "Most.lost" (defArgs s_Most_lost) (defBody s_Most_lost) (defScope s_Most_lost) .none kV17 dc17 pm17 an17 cd17 ct17), sl17⟩) (c17 : PySem.W.codeIn K cd17 "Most.lost" = true) (k17 : PySem.W.keepIn K (.ref f17) = true)
    {f18 : Addr} {od18 an18 : Option Addr} {sl18 : Array (Option Value)} {oc18 kV18 dc18 pm18 cd18 ct18 : Value}
    (a18 : PySem.W.nsIn K mainGlobals "law" = some (some (.ref f18)))
    (l18 : K.lookup f18 = some ⟨oc18, od18, .func (PySem.W.fnOf "law" "law" (defArgs s_law) (defBody s_law) (defScope s_law) .none kV18 dc18 pm18 an18 cd18 ct18), sl18⟩) (c18 : PySem.W.codeIn K cd18 "law" = true) (k18 : PySem.W.keepIn K (.ref f18) = true)
    (z0 : PySem.W.nsIn K mainGlobals "len" = some none)
    (z1 : PySem.W.nsIn K mainGlobals "range" = some none)
    (z2 : PySem.W.nsIn K mainGlobals "zip" = some none)
    (z3 : PySem.W.nsIn K mainGlobals "list" = some none)
    (z4 : PySem.W.nsIn K mainGlobals "isinstance" = some none)
    (z5 : PySem.W.nsIn K mainGlobals "bool" = some none)
    (z6 : PySem.W.nsIn K mainGlobals "sum" = some none)
    : ∃ fd : FuncData, (∀ (s : Shared) (v : Value), BindsTo s fd ⟨[v], []⟩ [("_law_script", v)]) ∧ ∀ base : Heap, K.In base → base.Ns mainGlobals mg → FnOk l.prog w K mg base CX0 4 fa fd ["_law_script"] (spD K f_law) := by
  have e := hfa.symm.trans (PySem.W.mg_of X G a18)
  cases e
  have clIn : Cls K CIn := ⟨pgIn, hdIn, poIn, saIn⟩
  have flIn : FlAll K fl_In := ⟨⟨CIn, aIn, clIn, nInthing⟩, trivial⟩
  have clOut : Cls K COut := ⟨pgOut, hdOut, poOut, saOut⟩
  have flOut : FlAll K fl_Out := ⟨⟨COut, aOut, clOut, nOutthing⟩, trivial⟩
  have clLeast : Cls K CLeast := ⟨pgLeast, hdLeast, poLeast, saLeast⟩
  have flLeast : FlAll K fl_Least := ⟨⟨CLeast, aLeast, clLeast, nLeastbound⟩, ⟨CLeast, aLeast, clLeast, nLeastweighed⟩, trivial⟩
  have clMost : Cls K CMost := ⟨pgMost, hdMost, poMost, saMost⟩
  have flMost : FlAll K fl_Most := ⟨⟨CMost, aMost, clMost, nMostbound⟩, ⟨CMost, aMost, clMost, nMostweighed⟩, trivial⟩
  have F0 := fun_mk (st := s_l_mixed) l0 c0 k0
  have b0 := F0.binds (ps := P_l_mixed) fun _ _ _ _ _ _ us hl => match us, hl with | [_, _], _ => rfl
  have F1 := fun_mk (st := s_l_cell_at) l1 c1 k1
  have b1 := F1.binds (ps := P_l_cell_at) fun _ _ _ _ _ _ us hl => match us, hl with | [_, _], _ => rfl
  have F2 := fun_mk (st := s_l_truths) l2 c2 k2
  have b2 := F2.binds (ps := P_l_truths) fun _ _ _ _ _ _ us hl => match us, hl with | [_, _, _], _ => rfl
  have F3 := fun_mk (st := s_l_sheet) l3 c3 k3
  have b3 := F3.binds (ps := P_l_sheet) fun _ _ _ _ _ _ us hl => match us, hl with | [_, _, _], _ => rfl
  have F4 := fun_mk (st := s_l_items) l4 c4 k4
  have b4 := F4.binds (ps := P_l_items) fun _ _ _ _ _ _ us hl => match us, hl with | [_, _], _ => rfl
  have F5 := fun_mk (st := s_l_free) l5 c5 k5
  have b5 := F5.binds (ps := P_l_free) fun _ _ _ _ _ _ us hl => match us, hl with | [_, _, _], _ => rfl
  have F6 := fun_mk (st := s_In___init__) l6 c6 k6
  have b6 := F6.binds (ps := P_In___init__) fun _ _ _ _ _ _ us hl => match us, hl with | [_, _], _ => rfl
  have F7 := fun_mk (st := s_Out___init__) l7 c7 k7
  have b7 := F7.binds (ps := P_Out___init__) fun _ _ _ _ _ _ us hl => match us, hl with | [_, _], _ => rfl
  have F8 := fun_mk (st := s_Least___init__) l8 c8 k8
  have b8 := F8.binds (ps := P_Least___init__) fun _ _ _ _ _ _ us hl => match us, hl with | [_, _, _], _ => rfl
  have F9 := fun_mk (st := s_Most___init__) l9 c9 k9
  have b9 := F9.binds (ps := P_Most___init__) fun _ _ _ _ _ _ us hl => match us, hl with | [_, _, _], _ => rfl
  have F10 := fun_mk (st := s_part_of) l10 c10 k10
  have b10 := F10.binds (ps := P_part_of) fun _ _ _ _ _ _ us hl => match us, hl with | [_], _ => rfl
  have F11 := fun_mk (st := s_l_right) l11 c11 k11
  have b11 := F11.binds (ps := P_l_right) fun _ _ _ _ _ _ us hl => match us, hl with | [_, _], _ => rfl
  have F12 := fun_mk (st := s_l_lost) l12 c12 k12
  have b12 := F12.binds (ps := P_l_lost) fun _ _ _ _ _ _ us hl => match us, hl with | [_, _, _], _ => rfl
  have F13 := fun_mk (st := s_In_lost) l13 c13 k13
  have b13 := F13.binds (ps := P_In_lost) fun _ _ _ _ _ _ us hl => match us, hl with | [_, _, _], _ => rfl
  have F14 := fun_mk (st := s_Out_lost) l14 c14 k14
  have b14 := F14.binds (ps := P_Out_lost) fun _ _ _ _ _ _ us hl => match us, hl with | [_, _, _], _ => rfl
  have F15 := fun_mk (st := s_worth_of) l15 c15 k15
  have b15 := F15.binds (ps := P_worth_of) fun _ _ _ _ _ _ us hl => match us, hl with | [_, _], _ => rfl
  have F16 := fun_mk (st := s_Least_lost) l16 c16 k16
  have b16 := F16.binds (ps := P_Least_lost) fun _ _ _ _ _ _ us hl => match us, hl with | [_, _, _], _ => rfl
  have F17 := fun_mk (st := s_Most_lost) l17 c17 k17
  have b17 := F17.binds (ps := P_Most_lost) fun _ _ _ _ _ _ us hl => match us, hl with | [_, _, _], _ => rfl
  have F18 := fun_mk (st := s_law) l18 c18 k18
  have y0 := PySem.W.mg_none_of X G z0
  have y1 := PySem.W.mg_none_of X G z1
  have y2 := PySem.W.mg_none_of X G z2
  have y3 := PySem.W.mg_none_of X G z3
  have y4 := PySem.W.mg_none_of X G z4
  have y5 := PySem.W.mg_none_of X G z5
  have y6 := PySem.W.mg_none_of X G z6
  refine ⟨PySem.W.fnOf "law" "law" (defArgs s_law) (defBody s_law) (defScope s_law) .none kV18 dc18 pm18 an18 cd18 ct18, fun s v => .of_eq rfl, fun base _ _ => ?_⟩
  have G0 : FnOk l.prog w K mg base CX0 1 _ _ P_l_mixed (spD K f_l_mixed) := ok_l_mixed (k := 0) (mods (by decide +kernel) trivial trivial trivial trivial trivial trivial) F0
  have G1 : FnOk l.prog w K mg base CX0 1 _ _ P_l_cell_at (spD K f_l_cell_at) := ok_l_cell_at (k := 0) (mods (by decide +kernel) trivial trivial ⟨y0, trivial⟩ trivial trivial trivial) F1
  have G2 : FnOk l.prog w K mg base CX0 1 _ _ P_l_truths (spD K f_l_truths) := ok_l_truths (k := 0) (mods (by decide +kernel) trivial trivial ⟨y1, trivial⟩ trivial trivial trivial) F2
  have G3 : FnOk l.prog w K mg base CX0 2 _ _ P_l_sheet (spD K f_l_sheet) := ok_l_sheet (k := 1) (mods (by decide +kernel) ⟨⟨f2, _, _, G2.mono (by decide), PySem.W.mg_of X G a2, F2.kp, b2⟩, trivial⟩ trivial ⟨y2, trivial⟩ trivial trivial trivial) F3
  have G4 : FnOk l.prog w K mg base CX0 2 _ _ P_l_items (spD K f_l_items) := ok_l_items (k := 1) (mods (by decide +kernel) ⟨⟨f0, _, _, G0.mono (by decide), PySem.W.mg_of X G a0, F0.kp, b0⟩, trivial⟩ trivial trivial trivial trivial trivial) F4
  have G5 : FnOk l.prog w K mg base CX0 1 _ _ P_l_free (spD K f_l_free) := ok_l_free (k := 0) (mods (by decide +kernel) trivial trivial trivial trivial trivial trivial) F5
  have G6 : FnOk l.prog w K mg base CX0 1 _ _ P_In___init__ (spI K "In" f_In) := ok_In___init__ (k := 0) (mods (by decide +kernel) trivial trivial trivial trivial trivial flIn) flIn F6
  have G7 : FnOk l.prog w K mg base CX0 1 _ _ P_Out___init__ (spI K "Out" f_Out) := ok_Out___init__ (k := 0) (mods (by decide +kernel) trivial trivial trivial trivial trivial flOut) flOut F7
  have G8 : FnOk l.prog w K mg base CX0 1 _ _ P_Least___init__ (spI K "Least" f_Least) := ok_Least___init__ (k := 0) (mods (by decide +kernel) trivial trivial ⟨y3, trivial⟩ trivial trivial flLeast) flLeast F8
  have G9 : FnOk l.prog w K mg base CX0 1 _ _ P_Most___init__ (spI K "Most" f_Most) := ok_Most___init__ (k := 0) (mods (by decide +kernel) trivial trivial ⟨y3, trivial⟩ trivial trivial flMost) flMost F9
  have G10 : FnOk l.prog w K mg base CX0 3 _ _ P_part_of (spD K f_part_of) := ok_part_of (k := 2) (mods (by decide +kernel) trivial ⟨⟨1, CIn, f6, _, _, by decide, ⟨mkIn, a6, i6, kcIn⟩, G6, PySem.W.mg_of X G aIn, b6, aIn⟩, ⟨1, COut, f7, _, _, by decide, ⟨mkOut, a7, i7, kcOut⟩, G7, PySem.W.mg_of X G aOut, b7, aOut⟩, ⟨1, CLeast, f8, _, _, by decide, ⟨mkLeast, a8, i8, kcLeast⟩, G8, PySem.W.mg_of X G aLeast, b8, aLeast⟩, ⟨1, CMost, f9, _, _, by decide, ⟨mkMost, a9, i9, kcMost⟩, G9, PySem.W.mg_of X G aMost, b9, aMost⟩, trivial⟩ trivial trivial trivial trivial) F10
  have G11 : FnOk l.prog w K mg base CX0 1 _ _ P_l_right (spD K f_l_right) := ok_l_right (k := 0) (mods (by decide +kernel) trivial trivial ⟨y4, y5, trivial⟩ trivial trivial trivial) F11
  have G12 : FnOk l.prog w K mg base CX0 2 _ _ P_l_lost (spD K f_l_lost) := ok_l_lost (k := 1) (mods (by decide +kernel) ⟨⟨f5, _, _, G5.mono (by decide), PySem.W.mg_of X G a5, F5.kp, b5⟩, trivial⟩ trivial ⟨y6, trivial⟩ trivial trivial trivial) F12
  have G13 : FnOk l.prog w K mg base CX0 1 _ _ P_In_lost (spD K f_In_lost) := ok_In_lost (k := 0) (mods (by decide +kernel) trivial trivial trivial trivial trivial flIn) F13
  have G14 : FnOk l.prog w K mg base CX0 1 _ _ P_Out_lost (spD K f_Out_lost) := ok_Out_lost (k := 0) (mods (by decide +kernel) trivial trivial trivial trivial trivial flOut) F14
  have G15 : FnOk l.prog w K mg base CX0 1 _ _ P_worth_of (spD K f_worth_of) := ok_worth_of (k := 0) (mods (by decide +kernel) trivial trivial ⟨y6, trivial⟩ trivial trivial trivial) F15
  have G16 : FnOk l.prog w K mg base CX0 2 _ _ P_Least_lost (spD K f_Least_lost) := ok_Least_lost (k := 1) (mods (by decide +kernel) ⟨⟨f15, _, _, G15.mono (by decide), PySem.W.mg_of X G a15, F15.kp, b15⟩, trivial⟩ trivial ⟨y2, trivial⟩ trivial trivial flLeast) F16
  have G17 : FnOk l.prog w K mg base CX0 2 _ _ P_Most_lost (spD K f_Most_lost) := ok_Most_lost (k := 1) (mods (by decide +kernel) ⟨⟨f15, _, _, G15.mono (by decide), PySem.W.mg_of X G a15, F15.kp, b15⟩, trivial⟩ trivial trivial trivial trivial flMost) F17
  have G18 : FnOk l.prog w K mg base CX0 4 _ _ P_law (spD K f_law) := ok_law (k := 3) (mods (by decide +kernel) ⟨⟨f0, _, _, G0.mono (by decide), PySem.W.mg_of X G a0, F0.kp, b0⟩, ⟨f1, _, _, G1.mono (by decide), PySem.W.mg_of X G a1, F1.kp, b1⟩, ⟨f3, _, _, G3.mono (by decide), PySem.W.mg_of X G a3, F3.kp, b3⟩, ⟨f2, _, _, G2.mono (by decide), PySem.W.mg_of X G a2, F2.kp, b2⟩, ⟨f4, _, _, G4.mono (by decide), PySem.W.mg_of X G a4, F4.kp, b4⟩, ⟨f5, _, _, G5.mono (by decide), PySem.W.mg_of X G a5, F5.kp, b5⟩, ⟨f10, _, _, G10.mono (by decide), PySem.W.mg_of X G a10, F10.kp, b10⟩, ⟨f11, _, _, G11.mono (by decide), PySem.W.mg_of X G a11, F11.kp, b11⟩, ⟨f12, _, _, G12.mono (by decide), PySem.W.mg_of X G a12, F12.kp, b12⟩, trivial⟩ trivial ⟨y6, y3, trivial⟩ trivial ⟨⟨⟨CIn, f13, _, _, aIn, clIn, ⟨a13, i13, k13⟩, G13.mono (by decide), b13⟩, ⟨COut, f14, _, _, aOut, clOut, ⟨a14, i14, k14⟩, G14.mono (by decide), b14⟩, ⟨CLeast, f16, _, _, aLeast, clLeast, ⟨a16, i16, k16⟩, G16.mono (by decide), b16⟩, ⟨CMost, f17, _, _, aMost, clMost, ⟨a17, i17, k17⟩, G17.mono (by decide), b17⟩, trivial⟩, trivial⟩ trivial) F18
  exact G18
end My
open PySem PySem.W PyProof.Rows
set_option maxRecDepth 100000 in
set_option maxHeartbeats 0 in
theorem PySem.Challenge.cw_standstill_k04_a_part_lost_holds : PySem.Challenge.rw_standstill_k04_a_part_lost.Holds := by
  w_on; o_law; k_head; (case hw => w_witness2)
  k_fill
  refine L2.walk_of (l := PySem.Challenge.rw_standstill_k04_a_part_lost) (n := 63) (k := 4) (x := "_law_script") (CX := fun _ => L2.CX0) (sp := fun w => DL.spD _ My.f_law) rfl (by decide) rfl ⟨rfl, by decide, by decide⟩ (fun w h Y => PySem.W.kIn_of Y) ?F (fun w H a ns hl _ hS => DL.law_end hS (My.law_true ns hl)) (fun _ _ _ _ _ h => h)
  case F =>
    intro w mg fa h KX G hmg
    refine' My.all_mk KX G hmg ?aIn ?pgIn ?hdIn ?poIn ?saIn ?mkIn ?kcIn ?nInthing ?aOut ?pgOut ?hdOut ?poOut ?saOut ?mkOut ?kcOut ?nOutthing ?aLeast ?pgLeast ?hdLeast ?poLeast ?saLeast ?mkLeast ?kcLeast ?nLeastbound ?nLeastweighed ?aMost ?pgMost ?hdMost ?poMost ?saMost ?mkMost ?kcMost ?nMostbound ?nMostweighed ?a0 ?l0 ?c0 ?k0 ?a1 ?l1 ?c1 ?k1 ?a2 ?l2 ?c2 ?k2 ?a3 ?l3 ?c3 ?k3 ?a4 ?l4 ?c4 ?k4 ?a5 ?l5 ?c5 ?k5 ?a6 ?i6 ?l6 ?c6 ?k6 ?a7 ?i7 ?l7 ?c7 ?k7 ?a8 ?i8 ?l8 ?c8 ?k8 ?a9 ?i9 ?l9 ?c9 ?k9 ?a10 ?l10 ?c10 ?k10 ?a11 ?l11 ?c11 ?k11 ?a12 ?l12 ?c12 ?k12 ?a13 ?i13 ?l13 ?c13 ?k13 ?a14 ?i14 ?l14 ?c14 ?k14 ?a15 ?l15 ?c15 ?k15 ?a16 ?i16 ?l16 ?c16 ?k16 ?a17 ?i17 ?l17 ?c17 ?k17 ?a18 ?l18 ?c18 ?k18 ?z0 ?z1 ?z2 ?z3 ?z4 ?z5 ?z6
    (case aIn => k_is); (case pgIn => k_is); (case hdIn => k_is); (case poIn => k_is); (case saIn => k_is); (case mkIn => k_is); (case kcIn => k_is); (case nInthing => k_is); (case aOut => k_is); (case pgOut => k_is); (case hdOut => k_is); (case poOut => k_is); (case saOut => k_is); (case mkOut => k_is); (case kcOut => k_is); (case nOutthing => k_is); (case aLeast => k_is); (case pgLeast => k_is); (case hdLeast => k_is); (case poLeast => k_is); (case saLeast => k_is); (case mkLeast => k_is); (case kcLeast => k_is); (case nLeastbound => k_is); (case nLeastweighed => k_is); (case aMost => k_is); (case pgMost => k_is); (case hdMost => k_is); (case poMost => k_is); (case saMost => k_is); (case mkMost => k_is); (case kcMost => k_is); (case nMostbound => k_is); (case nMostweighed => k_is); (case a0 => k_is); (case l0 => k_is); (case c0 => k_is); (case k0 => k_is); (case a1 => k_is); (case l1 => k_is); (case c1 => k_is); (case k1 => k_is); (case a2 => k_is); (case l2 => k_is); (case c2 => k_is); (case k2 => k_is); (case a3 => k_is); (case l3 => k_is); (case c3 => k_is); (case k3 => k_is); (case a4 => k_is); (case l4 => k_is); (case c4 => k_is); (case k4 => k_is); (case a5 => k_is); (case l5 => k_is); (case c5 => k_is); (case k5 => k_is); (case a6 => k_is); (case i6 => k_is); (case l6 => k_is); (case c6 => k_is); (case k6 => k_is); (case a7 => k_is); (case i7 => k_is); (case l7 => k_is); (case c7 => k_is); (case k7 => k_is); (case a8 => k_is); (case i8 => k_is); (case l8 => k_is); (case c8 => k_is); (case k8 => k_is); (case a9 => k_is); (case i9 => k_is); (case l9 => k_is); (case c9 => k_is); (case k9 => k_is); (case a10 => k_is); (case l10 => k_is); (case c10 => k_is); (case k10 => k_is); (case a11 => k_is); (case l11 => k_is); (case c11 => k_is); (case k11 => k_is); (case a12 => k_is); (case l12 => k_is); (case c12 => k_is); (case k12 => k_is); (case a13 => k_is); (case i13 => k_is); (case l13 => k_is); (case c13 => k_is); (case k13 => k_is); (case a14 => k_is); (case i14 => k_is); (case l14 => k_is); (case c14 => k_is); (case k14 => k_is); (case a15 => k_is); (case l15 => k_is); (case c15 => k_is); (case k15 => k_is); (case a16 => k_is); (case i16 => k_is); (case l16 => k_is); (case c16 => k_is); (case k16 => k_is); (case a17 => k_is); (case i17 => k_is); (case l17 => k_is); (case c17 => k_is); (case k17 => k_is); (case a18 => k_is); (case l18 => k_is); (case c18 => k_is); (case k18 => k_is); (case z0 => k_is); (case z1 => k_is); (case z2 => k_is); (case z3 => k_is); (case z4 => k_is); (case z5 => k_is); (case z6 => k_is)
end
