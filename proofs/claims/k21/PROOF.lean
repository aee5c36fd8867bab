import PyProof.Rows.All
import Wide.All
import OpenK.AllK
import Wide.FinOn
import HandS.ForMost
import HandS.Flow
import HandS.Style
import HandS.Deep
import HandS.IsInst
import HandS.TupAny
import HandS.Wide
import HandS.SortInts
import HandS.Conv
import HandS.Star
import HandS.SlotsOwn
import HandS.TupLe
import HandS.SetFor
import HandS.SetTxt0
import HandS.SetKeys
import HandS.Replace
import HandS.Codes
import HandS.ReplaceList
import PySem.Challenge.RW_filedalike_k21_standings_of_senders
import HandS.Defaults
set_option Elab.async false
set_option linter.all false
set_option maxRecDepth 100000
set_option maxHeartbeats 4000000
/-! G0: pure data over the abstract heap, owned things, worlds and their steps -/
namespace G
open PySem L2

inductive D where
  | non | bl (b : Bool) | int (i : Int) | str (s : Str) | tup (xs : List D) | lst (xs : List D) | ins (c : Nat) (fs : List D)

structure Gam where
  K : PySem.W.Frag
  cls : Nat → Option (Addr × List Str)
  Ob : Type
  orep : (Addr → Prop) → Hp → V → Ob → (Addr → Prop) → Prop
  omono : ∀ (M : Addr → Prop) (H : Hp) (M' : Addr → Prop) (H' : Hp) (v : V) (o : Ob) (Fr : Addr → Prop), orep M H v o Fr →
    (∀ a u, ¬ M a ∨ Fr a → H a = some u → H' a = some u) → (∀ a, ¬ M a → H a ≠ none → ¬ M' a) → orep M' H' v o Fr

/-- a tuple (a list) to be read that nobody may change -/
def TupM (K : PySem.W.Frag) (M : Addr → Prop) (H : Hp) (a : Addr) (vs : List V) : Prop :=
  (¬ M a ∧ Rd H a (.tup vs)) ∨ ((∀ H', SqT K H' a vs))
def LstM (K : PySem.W.Frag) (M : Addr → Prop) (H : Hp) (a : Addr) (vs : List V) : Prop :=
  (¬ M a ∧ Rd H a (.lst vs)) ∨ ((∀ H', SqL K H' a vs))
theorem TupM.sq {K : PySem.W.Frag} {M : Addr → Prop} {H : Hp} {a : Addr} {vs : List V} (h : TupM K M H a vs) : SqT K H a vs := by
  rcases h with h | h
  · exact .inl h.2
  · exact h H
theorem LstM.sq {K : PySem.W.Frag} {M : Addr → Prop} {H : Hp} {a : Addr} {vs : List V} (h : LstM K M H a vs) : SqL K H a vs := by
  rcases h with h | h
  · exact .inl h.2
  · exact h H
/-- H' tells all that H tells of what is not in M; what was there and not in M is not in M' -/
structure Go (M : Addr → Prop) (H : Hp) (M' : Addr → Prop) (H' : Hp) : Prop where
  keep : ∀ a u, ¬ M a → H a = some u → H' a = some u
  stay : ∀ a, ¬ M a → H a ≠ none → ¬ M' a
theorem TupM.go {K : PySem.W.Frag} {M M' : Addr → Prop} {H H' : Hp} {a : Addr} {vs : List V} (h : TupM K M H a vs) (g : Go M H M' H') : TupM K M' H' a vs := by
  rcases h with ⟨n, h⟩ | h
  · refine .inl ?_
    rcases h with h | ⟨o, h⟩
    · exact ⟨g.stay a n (by rw [h]; simp), .inl (g.keep a _ n h)⟩
    · exact ⟨g.stay a n (by rw [h]; simp), .inr ⟨o, g.keep a _ n h⟩⟩
  · exact .inr h
theorem LstM.go {K : PySem.W.Frag} {M M' : Addr → Prop} {H H' : Hp} {a : Addr} {vs : List V} (h : LstM K M H a vs) (g : Go M H M' H') : LstM K M' H' a vs := by
  rcases h with ⟨n, h⟩ | h
  · refine .inl ?_
    rcases h with h | ⟨o, h⟩
    · exact ⟨g.stay a n (by rw [h]; simp), .inl (g.keep a _ n h)⟩
    · exact ⟨g.stay a n (by rw [h]; simp), .inr ⟨o, g.keep a _ n h⟩⟩
  · exact .inr h

mutual
/-- the value v bears the data d, which nobody will change -/
inductive Dat (Γ : Gam) (M : Addr → Prop) (H : Hp) : V → D → Prop
  | non : Dat Γ M H .non .non
  | bl (b : Bool) : Dat Γ M H (.bl b) (.bl b)
  | int (i : Int) : Dat Γ M H (.int i) (.int i)
  | str (x : Str) : Dat Γ M H (.str x) (.str x)
  | tup {a : Addr} {vs : List V} {ds : List D} : TupM Γ.K M H a vs → Dats Γ M H vs ds → Dat Γ M H (.ref a) (.tup ds)
  | lst {a : Addr} {vs : List V} {ds : List D} : ¬ M a → H a = some (.lst vs) → Dats Γ M H vs ds → Dat Γ M H (.ref a) (.lst ds)
  | ins {a C dx : Addr} {c : Nat} {ns : List Str} {vs : List V} {ds : List D} : Γ.cls c = some (C, ns) → ¬ M a → H a = some (.ins C dx (ns.zip vs)) → ns.length = vs.length → Dats Γ M H vs ds → Dat Γ M H (.ref a) (.ins c ds)
inductive Dats (Γ : Gam) (M : Addr → Prop) (H : Hp) : List V → List D → Prop
  | nil : Dats Γ M H [] []
  | cons {v : V} {vs : List V} {d : D} {ds : List D} : Dat Γ M H v d → Dats Γ M H vs ds → Dats Γ M H (v :: vs) (d :: ds)
end

mutual
theorem Dat.go {Γ : Gam} {M M' : Addr → Prop} {H H' : Hp} (g : Go M H M' H') : ∀ {v : V} {d : D}, Dat Γ M H v d → Dat Γ M' H' v d
  | _, _, .non => .non
  | _, _, .bl b => .bl b
  | _, _, .int i => .int i
  | _, _, .str x => .str x
  | _, _, .tup h r => .tup (h.go g) (Dats.go g r)
  | _, _, .lst n h r => .lst (g.stay _ n (by rw [h]; simp)) (g.keep _ _ n h) (Dats.go g r)
  | _, _, .ins e n h l r => .ins e (g.stay _ n (by rw [h]; simp)) (g.keep _ _ n h) l (Dats.go g r)
theorem Dats.go {Γ : Gam} {M M' : Addr → Prop} {H H' : Hp} (g : Go M H M' H') : ∀ {vs : List V} {ds : List D}, Dats Γ M H vs ds → Dats Γ M' H' vs ds
  | _, _, .nil => .nil
  | _, _, .cons h r => .cons (Dat.go g h) (Dats.go g r)
end
section
variable {Γ : Gam} {M : Addr → Prop} {H : Hp}
theorem Dats.length : ∀ {vs : List V} {ds : List D}, Dats Γ M H vs ds → vs.length = ds.length
  | _, _, .nil => rfl
  | _, _, .cons _ r => by rw [List.length_cons, List.length_cons, Dats.length r]
theorem Dats.append : ∀ {vs ws : List V} {ds es : List D}, Dats Γ M H vs ds → Dats Γ M H ws es → Dats Γ M H (vs ++ ws) (ds ++ es)
  | _, _, _, _, .nil, s => s
  | _, _, _, _, .cons h r, s => .cons h (Dats.append r s)
theorem Dats.get : ∀ {vs : List V} {ds : List D} {i : Nat} {d : D}, Dats Γ M H vs ds → ds[i]? = some d → ∃ v, vs[i]? = some v ∧ Dat Γ M H v d
  | _, _, _, _, .nil, e => by simp at e
  | _, _, 0, _, .cons h _, e => by simp at e; subst e; exact ⟨_, rfl, h⟩
  | _, _, i + 1, d, .cons _ r, e => by
    obtain ⟨v, h1, h2⟩ := Dats.get (i := i) (d := d) r (by simpa using e)
    exact ⟨v, by simpa using h1, h2⟩
theorem Dats.getV : ∀ {vs : List V} {ds : List D} {i : Nat} {v : V}, Dats Γ M H vs ds → vs[i]? = some v → ∃ d, ds[i]? = some d ∧ Dat Γ M H v d
  | _, _, _, _, .nil, e => by simp at e
  | _, _, 0, _, .cons h _, e => by simp at e; subst e; exact ⟨_, rfl, h⟩
  | _, _, i + 1, v, .cons _ r, e => by
    obtain ⟨d, h1, h2⟩ := Dats.getV (i := i) (v := v) r (by simpa using e)
    exact ⟨d, by simpa using h1, h2⟩
theorem Dats.take : ∀ {vs : List V} {ds : List D} (n : Nat), Dats Γ M H vs ds → Dats Γ M H (vs.take n) (ds.take n)
  | _, _, 0, _ => .nil
  | _, _, _ + 1, .nil => .nil
  | _, _, n + 1, .cons h r => .cons h (Dats.take n r)
theorem Dats.drop : ∀ {vs : List V} {ds : List D} (n : Nat), Dats Γ M H vs ds → Dats Γ M H (vs.drop n) (ds.drop n)
  | _, _, 0, r => r
  | _, _, _ + 1, .nil => .nil
  | _, _, n + 1, .cons _ r => Dats.drop n r
theorem Dats.set {v : V} {d : D} (h : Dat Γ M H v d) : ∀ {vs : List V} {ds : List D} (i : Nat), Dats Γ M H vs ds → Dats Γ M H (vs.set i v) (ds.set i d)
  | _, _, _, .nil => .nil
  | _, _, 0, .cons _ r => .cons h r
  | _, _, i + 1, .cons q r => .cons q (Dats.set h i r)
theorem Dats.eraseIdx : ∀ {vs : List V} {ds : List D} (i : Nat), Dats Γ M H vs ds → Dats Γ M H (vs.eraseIdx i) (ds.eraseIdx i)
  | _, _, _, .nil => .nil
  | _, _, 0, .cons _ r => r
  | _, _, i + 1, .cons q r => .cons q (Dats.eraseIdx i r)
theorem Dats.reverse {vs : List V} {ds : List D} (h : Dats Γ M H vs ds) : Dats Γ M H vs.reverse ds.reverse := by
  have go : ∀ {vs ws : List V} {ds es : List D}, Dats Γ M H vs ds → Dats Γ M H ws es → Dats Γ M H (vs.reverseAux ws) (ds.reverseAux es) := by
    intro vs
    induction vs with
    | nil => intro ws ds es h1 h2; cases h1; exact h2
    | cons v vs ih => intro ws ds es h1 h2; cases h1 with | cons a b => exact ih (es := _ :: _) b (.cons a h2)
  exact go h .nil
end

/-- what an attribute of an owned instance holds -/
inductive Fd where
  | dat (d : D) | lst (ds : List D) | dic (kvs : List (Key × D))
/-- what a slot of a frame holds: nothing, data, the script, or a thing that this frame alone may change -/
inductive Sl (Γ : Gam) where
  | none | dat (d : D) | scr (ns : List Int) | lst (ds : List D) | dic (kvs : List (Key × D)) | ins (c : Nat) (fs : List (Str × Fd)) | obj (o : Γ.Ob)

inductive KDats (Γ : Gam) (M : Addr → Prop) (H : Hp) : List (Key × V) → List (Key × D) → Prop
  | nil : KDats Γ M H [] []
  | cons {k : Key} {v : V} {vs : List (Key × V)} {d : D} {ds : List (Key × D)} : Dat Γ M H v d → KDats Γ M H vs ds → KDats Γ M H ((k, v) :: vs) ((k, d) :: ds)
theorem KDats.go {Γ : Gam} {M M' : Addr → Prop} {H H' : Hp} (g : Go M H M' H') : ∀ {vs : List (Key × V)} {ds : List (Key × D)}, KDats Γ M H vs ds → KDats Γ M' H' vs ds
  | _, _, .nil => .nil
  | _, _, .cons h r => .cons (h.go g) (KDats.go g r)

/-- the value v bears what an attribute holds; G: the addresses that it owns -/
def FdR (Γ : Gam) (M : Addr → Prop) (H : Hp) (v : V) (x : Fd) (G : Addr → Prop) : Prop :=
  match x with
  | .dat d => Dat Γ M H v d ∧ ∀ a, ¬ G a
  | .lst ds => ∃ p vs, v = .ref p ∧ H p = some (.lst vs) ∧ Dats Γ M H vs ds ∧ ∀ a, G a ↔ a = p
  | .dic kvs => ∃ p vs, v = .ref p ∧ H p = some (.dK vs) ∧ KDats Γ M H vs kvs ∧ ∀ a, G a ↔ a = p
theorem FdR.go {Γ : Gam} {M M' : Addr → Prop} {H H' : Hp} {v : V} {x : Fd} {G : Addr → Prop} (h : FdR Γ M H v x G) (g : Go M H M' H') (k : ∀ a u, G a → H a = some u → H' a = some u) : FdR Γ M' H' v x G := by
  cases x with
  | dat d => exact ⟨h.1.go g, h.2⟩
  | lst ds => obtain ⟨p, vs, e, hp, r, n⟩ := h; exact ⟨p, vs, e, k p _ ((n p).mpr rfl) hp, r.go g, n⟩
  | dic kvs => obtain ⟨p, vs, e, hp, r, n⟩ := h; exact ⟨p, vs, e, k p _ ((n p).mpr rfl) hp, r.go g, n⟩
/-- the attributes, one behind another; what they own is apart -/
inductive FdRs (Γ : Gam) (M : Addr → Prop) (H : Hp) : List (Str × V) → List (Str × Fd) → (Addr → Prop) → Prop
  | nil {G : Addr → Prop} : (∀ a, ¬ G a) → FdRs Γ M H [] [] G
  | cons {n : Str} {v : V} {x : Fd} {vs : List (Str × V)} {xs : List (Str × Fd)} {G G1 G2 : Addr → Prop} : FdR Γ M H v x G1 → FdRs Γ M H vs xs G2 → (∀ a, G1 a → ¬ G2 a) → (∀ a, G a ↔ G1 a ∨ G2 a) → FdRs Γ M H ((n, v) :: vs) ((n, x) :: xs) G
theorem FdRs.go {Γ : Gam} {M M' : Addr → Prop} {H H' : Hp} (g : Go M H M' H') : ∀ {vs : List (Str × V)} {xs : List (Str × Fd)} {G : Addr → Prop}, FdRs Γ M H vs xs G → (∀ a u, G a → H a = some u → H' a = some u) → FdRs Γ M' H' vs xs G
  | _, _, _, .nil h, _ => .nil h
  | _, _, _, .cons h r d e, k => .cons (h.go g fun a u z => k a u ((e a).mpr (.inl z))) (FdRs.go g r fun a u z => k a u ((e a).mpr (.inr z))) d e

/-- the value v bears s; Fr: the addresses that s owns -/
def SR (Γ : Gam) (M : Addr → Prop) (H : Hp) (v : V) (s : Sl Γ) (Fr : Addr → Prop) : Prop :=
  match s with
  | .none => False
  | .dat d => Dat Γ M H v d ∧ ∀ a, ¬ Fr a
  | .scr ns => (∃ a, v = .ref a ∧ LstM Γ.K M H a (ns.map V.int)) ∧ ∀ a, ¬ Fr a
  | .lst ds => ∃ p vs, v = .ref p ∧ H p = some (.lst vs) ∧ Dats Γ M H vs ds ∧ ∀ a, Fr a ↔ a = p
  | .dic kvs => ∃ p vs, v = .ref p ∧ H p = some (.dK vs) ∧ KDats Γ M H vs kvs ∧ ∀ a, Fr a ↔ a = p
  | .ins c fs => ∃ a C ns dx vs G, v = .ref a ∧ Γ.cls c = some (C, ns) ∧ H a = some (.ins C dx vs) ∧ FdRs Γ M H vs fs G ∧ ¬ G a ∧ ∀ b, Fr b ↔ b = a ∨ G b
  | .obj o => Γ.orep M H v o Fr
theorem SR.go {Γ : Gam} {M M' : Addr → Prop} {H H' : Hp} {v : V} {s : Sl Γ} {Fr : Addr → Prop} (h : SR Γ M H v s Fr) (g : Go M H M' H') (k : ∀ a u, Fr a → H a = some u → H' a = some u) : SR Γ M' H' v s Fr := by
  cases s with
  | none => exact h
  | dat d => exact ⟨h.1.go g, h.2⟩
  | scr ns => obtain ⟨⟨a, e, h⟩, n⟩ := h; exact ⟨⟨a, e, h.go g⟩, n⟩
  | lst ds => obtain ⟨p, vs, e, hp, r, n⟩ := h; exact ⟨p, vs, e, k p _ ((n p).mpr rfl) hp, r.go g, n⟩
  | dic kvs => obtain ⟨p, vs, e, hp, r, n⟩ := h; exact ⟨p, vs, e, k p _ ((n p).mpr rfl) hp, r.go g, n⟩
  | ins c fs =>
    obtain ⟨a, C, ns, dx, vs, G, e1, e2, hp, r, n, f⟩ := h
    exact ⟨a, C, ns, dx, vs, G, e1, e2, k a _ ((f a).mpr (.inl rfl)) hp, r.go g fun b u z => k b u ((f b).mpr (.inr z)), n, f⟩
  | obj o => exact Γ.omono M H M' H' v o Fr h (fun a u c e => c.elim (fun n => g.keep a u n e) fun f => k a u f e) g.stay

/-- a world: what may be changed (by whom ever), what each slot of this frame owns, the heap -/
structure Wd where
  M : Addr → Prop
  F : Nat → Addr → Prop
  H : Hp
abbrev Env (Γ : Gam) := List (Sl Γ)

def SltR (Γ : Gam) (w : Wd) (σ : St) (i : Nat) (s : Sl Γ) : Prop :=
  (s = .none ∧ ∀ a, ¬ w.F i a) ∨ ∃ v, σ[i]? = some (some v) ∧ SR Γ w.M w.H v s (w.F i)
structure ER (Γ : Gam) (w : Wd) (σ : St) (env : Env Γ) : Prop where
  len : env.length = σ.length
  slot : ∀ i s, env[i]? = some s → SltR Γ w σ i s
  sub : ∀ i a, w.F i a → w.M a
  dis : ∀ i j a, w.F i a → w.F j a → i = j
  dom : ∀ a, w.M a → w.H a ≠ none
  out : ∀ i, env.length ≤ i → ∀ a, ¬ w.F i a
structure Step (w w' : Wd) : Prop where
  keep : ∀ a u, (∀ i, ¬ w.F i a) → w.H a = some u → w'.H a = some u
  mu : ∀ a, (∀ i, ¬ w.F i a) → w.M a → w'.M a
  src : ∀ a, w'.M a → w.M a ∨ w.H a = none
  own : ∀ i a, w'.F i a → (∃ j, w.F j a) ∨ w.H a = none
  live : ∀ a, w.H a ≠ none → w'.H a ≠ none
theorem Step.refl (w : Wd) : Step w w := ⟨fun _ _ _ h => h, fun _ _ h => h, fun _ h => .inl h, fun i _ h => .inl ⟨i, h⟩, fun _ h => h⟩
theorem Step.off {w w' : Wd} (s : Step w w') {a : Addr} (h : ∀ i, ¬ w.F i a) (hn : w.H a ≠ none) : ∀ i, ¬ w'.F i a := fun i q => by
  rcases s.own i a q with ⟨j, z⟩ | z
  · exact h j z
  · exact hn z
theorem Step.trans {w w1 w2 : Wd} (s : Step w w1) (t : Step w1 w2) (dom : ∀ a, w.M a → w.H a ≠ none) : Step w w2 where
  keep := fun a u h e => t.keep a u (s.off h (by rw [e]; simp)) (s.keep a u h e)
  mu := fun a h m => t.mu a (s.off h (dom a m)) (s.mu a h m)
  src := fun a m => by
    rcases t.src a m with z | z
    · exact s.src a z
    · refine .inr ?_
      cases q : w.H a with
      | none => rfl
      | some u => exact absurd z (s.live a (by rw [q]; simp))
  own := fun i a f => by
    rcases t.own i a f with ⟨j, z⟩ | z
    · exact s.own j a z
    · refine .inr ?_
      cases q : w.H a with
      | none => rfl
      | some u => exact absurd z (s.live a (by rw [q]; simp))
  live := fun a h => t.live a (s.live a h)
def Fresh (w : Wd) (Fr : Addr → Prop) : Prop := ∀ a, Fr a → (∃ i, w.F i a) ∨ w.H a = none
theorem Fresh.back {w w1 : Wd} {Fr : Addr → Prop} (s : Step w w1) (h : Fresh w1 Fr) : Fresh w Fr := fun a f => by
  rcases h a f with ⟨j, z⟩ | z
  · exact s.own j a z
  · refine .inr ?_
    cases q : w.H a with
    | none => rfl
    | some u => exact absurd z (s.live a (by rw [q]; simp))
section
variable {Γ : Gam} {w w' : Wd} {σ : St} {env : Env Γ}
theorem ER.go (E : ER Γ w σ env) (s : Step w w') : Go w.M w.H w'.M w'.H :=
  ⟨fun a u n e => s.keep a u (fun i f => n (E.sub i a f)) e, fun a n e m => by
    rcases s.src a m with z | z
    · exact n z
    · exact e z⟩
/-- a temporary value: it owns Fr, which no slot owns -/
structure TR (Γ : Gam) (w : Wd) (v : V) (s : Sl Γ) (Fr : Addr → Prop) : Prop where
  rep : SR Γ w.M w.H v s Fr
  sub : ∀ a, Fr a → w.M a
  off : ∀ a i, Fr a → ¬ w.F i a
theorem TR.step {v : V} {s : Sl Γ} {Fr : Addr → Prop} (E : ER Γ w σ env) (t : TR Γ w v s Fr) (p : Step w w') : TR Γ w' v s Fr where
  rep := t.rep.go (E.go p) fun a u f e => p.keep a u (fun i => t.off a i f) e
  sub := fun a f => p.mu a (fun i => t.off a i f) (t.sub a f)
  off := fun a i f => p.off (fun j => t.off a j f) (E.dom a (t.sub a f)) i
end
end G

/-! G1: readings by what is wanted (wE ..), the judgements of the data level, operations on values -/
namespace G
open PySem L2

def wE (X : Cx) (e : Expr) : TE := fun σ H Q => ∀ pins s, Inv X pins σ H s → wpAny (model X.prog X.w) X.A (eval e X.env) (EP X pins σ Q) X.xe s
def wT (X : Cx) (e : Expr) : TT := fun σ H Q => ∀ pins s, Inv X pins σ H s → wpAny (model X.prog X.w) X.A (isTrue e X.env (eval e X.env)) (TP X pins σ Q) X.xe s
def wW (X : Cx) (e : Expr) : TT := fun σ H Q => ∀ whole pins s, Inv X pins σ H s → wpAny (model X.prog X.w) X.A (isTrue e X.env whole) (TP X pins σ Q) X.xe s
def wS (X : Cx) (st : Stmt) : TS := fun D σ H => ∀ pins s, Inv X pins σ H s → wpAny (model X.prog X.w) X.A (exec st X.env) (SP X pins D) X.xe s
def wSs (X : Cx) (st : List Stmt) : TS := fun D σ H => ∀ pins s, Inv X pins σ H s → wpAny (model X.prog X.w) X.A (execs st X.env) (SP X pins D) X.xe s
def wL (X : Cx) : List Expr → TA
  | [] => tNil
  | e :: es => tCons (wE X e) (wL X es)
section
variable {X : Cx} {e : Expr} {st : Stmt} {sts : List Stmt} {σ : St} {H : Hp}
theorem pe_wE : PE X e (wE X e) := ⟨fun pins s _ _ _ I h => h pins s I⟩
theorem pt_wT : PT X e (wT X e) := ⟨fun pins s _ _ _ I h => h pins s I⟩
theorem pw_wW : PW X e (wW X e) := ⟨fun whole pins s _ _ _ I h => h whole pins s I⟩
theorem ps_wS : PS X st (wS X st) := ⟨fun pins s _ _ _ I h => h pins s I⟩
theorem pss_wSs : PSs X sts (wSs X sts) := ⟨fun pins s _ _ _ I h => h pins s I⟩
theorem wE.of {t : TE} {Q : VK} (h : PE X e t) (q : t σ H Q) : wE X e σ H Q := fun pins s I => h.run pins s σ H Q I q
theorem wT.of {t : TT} {Q : Bool → Hp → Prop} (h : PT X e t) (q : t σ H Q) : wT X e σ H Q := fun pins s I => h.run pins s σ H Q I q
theorem wW.of {t : TT} {Q : Bool → Hp → Prop} (h : PW X e t) (q : t σ H Q) : wW X e σ H Q := fun whole pins s I => h.run whole pins s σ H Q I q
theorem wS.of {t : TS} {D : Ends} (h : PS X st t) (q : t D σ H) : wS X st D σ H := fun pins s I => h.run pins s σ H D I q
theorem wSs.of {t : TS} {D : Ends} (h : PSs X sts t) (q : t D σ H) : wSs X sts D σ H := fun pins s I => h.run pins s σ H D I q
/-- not starred -/
def NS (X : Cx) (e : Expr) : Prop := ∀ es, starEach (e :: es) X.env = (false, eval e X.env) :: starEach es X.env
theorem pa_wL : ∀ {es : List Expr}, (∀ e ∈ es, NS X e) → PA X es (wL X es)
  | [], _ => pa_nil
  | e :: es, h => pa_cons pe_wE (pa_wL fun x hx => h x (List.mem_cons_of_mem _ hx)) (h e List.mem_cons_self es)
end

/-- a context of ours -/
structure Gd (Γ : Gam) (X : Cx) : Prop where
  k : Γ.K = X.K
  calm : X.calm = true
  un : X.A.units + 65 < cLine
  nd : X.N.Nodup
abbrev Ev (Γ : Gam) := Env Γ → Option (Sl Γ × Env Γ)
abbrev Et (Γ : Gam) := Env Γ → Option (Bool × Env Γ)
def SdE (Γ : Gam) (X : Cx) (e : Expr) (f : Ev Γ) : Prop := Gd Γ X → ∀ (σ : St) (env : Env Γ) (r : Sl Γ) (env' : Env Γ) (w : Wd) (Q : VK), f env = some (r, env') → ER Γ w σ env →
  (∀ v w' Fr, ER Γ w' σ env' → TR Γ w' v r Fr → Step w w' → Fresh w Fr → Q v w'.H) → wE X e σ w.H Q
def SdT (Γ : Gam) (X : Cx) (e : Expr) (f : Et Γ) : Prop := Gd Γ X → ∀ (σ : St) (env : Env Γ) (b : Bool) (env' : Env Γ) (w : Wd) (Q : Bool → Hp → Prop), f env = some (b, env') → ER Γ w σ env →
  (∀ w', ER Γ w' σ env' → Step w w' → Q b w'.H) → wT X e σ w.H Q

/-! ### operands -/
inductive AE (Γ : Gam) where
  | brw (i : Nat) | ex (f : Ev Γ)
inductive Ag (Γ : Gam) where
  | brw (i : Nat) | val (s : Sl Γ)
def got {Γ : Gam} : Option (Sl Γ) → Option (Sl Γ)
  | some .none => Option.none
  | o => o
def evA {Γ : Gam} : AE Γ → Env Γ → Option (Ag Γ × Env Γ)
  | .brw i, env => (got env[i]?).map fun _ => (.brw i, env)
  | .ex f, env => (f env).map fun p => (.val p.1, p.2)
def peek {Γ : Gam} : Ag Γ → Env Γ → Option (Sl Γ)
  | .brw i, env => got env[i]?
  | .val s, _ => some s
def SdA (Γ : Gam) (X : Cx) (e : Expr) : AE Γ → Prop
  | .brw i => ∀ (σ : St) (H : Hp) (Q : VK) (v : V), σ[i]? = some (some v) → Q v H → wE X e σ H Q
  | .ex f => SdE Γ X e f
def AR (Γ : Gam) (w : Wd) (σ : St) (v : V) (a : Ag Γ) (Fr : Addr → Prop) : Prop :=
  match a with
  | .brw i => σ[i]? = some (some v) ∧ ∀ a, ¬ Fr a
  | .val s => TR Γ w v s Fr
section
variable {Γ : Gam} {X : Cx} {w w' w1 : Wd} {σ : St} {env env' : Env Γ}
theorem got_some {o : Option (Sl Γ)} {s : Sl Γ} (h : got o = some s) : o = some s ∧ s ≠ .none := by
  cases o with
  | none => cases h
  | some t =>
    cases t with
    | none => cases h
    | _ => cases h; exact ⟨rfl, by intro z; cases z⟩
theorem ER.at (E : ER Γ w σ env) {i : Nat} {s : Sl Γ} (h : got env[i]? = some s) : ∃ v, σ[i]? = some (some v) ∧ SR Γ w.M w.H v s (w.F i) := by
  obtain ⟨h1, h2⟩ := got_some h
  rcases E.slot i s h1 with ⟨z, _⟩ | z
  · exact absurd z h2
  · exact z
theorem AR.step {v : V} {a : Ag Γ} {Fr : Addr → Prop} (E : ER Γ w σ env) (h : AR Γ w σ v a Fr) (p : Step w w') : AR Γ w' σ v a Fr := by
  cases a with
  | brw i => exact h
  | val s => exact TR.step E h p
theorem AR.peek {v : V} {a : Ag Γ} {Fr : Addr → Prop} {s : Sl Γ} (E : ER Γ w σ env) (h : AR Γ w σ v a Fr) (p : peek a env = some s) : ∃ G, SR Γ w.M w.H v s G := by
  cases a with
  | brw i =>
    obtain ⟨u, e, r⟩ := E.at p
    have h1 := h.1
    rw [e] at h1
    cases h1
    exact ⟨_, r⟩
  | val t => cases p; exact ⟨Fr, h.rep⟩
theorem sda_run {e : Expr} {ae : AE Γ} {a : Ag Γ} {Q : VK} (h : SdA Γ X e ae) (hK : Gd Γ X) (he : evA ae env = some (a, env')) (E : ER Γ w σ env)
    (k : ∀ v w' Fr, ER Γ w' σ env' → AR Γ w' σ v a Fr → Step w w' → Fresh w Fr → Q v w'.H) : wE X e σ w.H Q := by
  cases ae with
  | brw i =>
    cases g : got env[i]? with
    | none => simp only [evA, g, Option.map_none] at he; cases he
    | some s =>
      simp only [evA, g, Option.map_some] at he
      cases he
      obtain ⟨v, e1, r⟩ := E.at g
      exact h σ w.H Q v e1 (k v w (fun _ => False) E ⟨e1, fun _ z => z⟩ (Step.refl w) fun _ z => z.elim)
  | ex f =>
    cases g : f env with
    | none => simp only [evA, g, Option.map_none] at he; cases he
    | some p =>
      obtain ⟨s, env1⟩ := p
      simp only [evA, g, Option.map_some] at he
      cases he
      exact h hK σ env s _ w Q g E k

/-! ### what an operation on values hands back -/
def Res (Γ : Gam) (M : Addr → Prop) (H : Hp) (s : Sl Γ) (Q : VK) : Prop := ∀ v H' Fr, (∀ a u, H a = some u → H' a = some u) → (∀ a, Fr a → H a = none ∧ H' a ≠ none) → SR Γ (fun a => M a ∨ Fr a) H' v s Fr → Q v H'
theorem ER.grow {Fr : Addr → Prop} {H' : Hp} (E : ER Γ w σ env) (h1 : ∀ a u, w.H a = some u → H' a = some u) (h2 : ∀ a, Fr a → w.H a = none ∧ H' a ≠ none) : ER Γ ⟨fun a => w.M a ∨ Fr a, w.F, H'⟩ σ env ∧ Step w ⟨fun a => w.M a ∨ Fr a, w.F, H'⟩ := by
  have lv : ∀ a, w.H a ≠ none → H' a ≠ none := fun a h => by
    cases q : w.H a with
    | none => exact absurd q h
    | some u => rw [h1 a u q]; simp
  have st : Step w ⟨fun a => w.M a ∨ Fr a, w.F, H'⟩ := ⟨fun a u _ e => h1 a u e, fun a _ m => .inl m, fun a m => m.imp id fun z => (h2 a z).1, fun i a f => .inl ⟨i, f⟩, lv⟩
  have g := E.go st
  refine ⟨⟨E.len, fun i s e => ?_, fun i a f => .inl (E.sub i a f), E.dis, fun a m => ?_, E.out⟩, st⟩
  · rcases E.slot i s e with z | ⟨v, e1, r⟩
    · exact .inl z
    · exact .inr ⟨v, e1, r.go g fun a u _ q => h1 a u q⟩
  · rcases m with m | m
    · exact lv a (E.dom a m)
    · exact (h2 a m).2
theorem res_of {s : Sl Γ} {Q : VK} (E : ER Γ w σ env) (k : ∀ v w' Fr, ER Γ w' σ env → TR Γ w' v s Fr → Step w w' → Fresh w Fr → Q v w'.H) : Res Γ w.M w.H s Q := fun v H' Fr h1 h2 h3 => by
  obtain ⟨E', st⟩ := E.grow h1 h2
  exact k v _ Fr E' ⟨h3, fun a f => .inr f, fun a i f z => E.dom a (E.sub i a z) (h2 a f).1⟩ st fun a f => .inr (h2 a f).1
variable {M : Addr → Prop} {H : Hp} {Q : VK}
theorem go_or {M : Addr → Prop} {H : Hp} : Go M H (fun a => M a ∨ False) H := ⟨fun _ _ _ h => h, fun _ n _ z => z.elim n id⟩
theorem Res.dat {d : D} {v : V} (k : Res Γ M H (.dat d) Q) (h : Dat Γ M H v d) : Q v H := k v H (fun _ => False) (fun _ _ h => h) (fun _ z => z.elim) ⟨h.go go_or, fun _ z => z⟩
theorem upd_keep {H : Hp} {p : Addr} {o : HO} (hp : H p = none) : ∀ a u, H a = some u → upd H p o a = some u := fun a u e => by rw [upd_ne (ne_of_none e hp)]; exact e
theorem go_new {M : Addr → Prop} {H : Hp} {p : Addr} {o : HO} (hp : H p = none) (N : Addr → Prop) (hN : ∀ a, N a → M a ∨ a = p) : Go M H N (upd H p o) :=
  ⟨fun a u _ e => upd_keep hp a u e, fun a n e z => (hN a z).elim n fun q => e (q ▸ hp)⟩
theorem Res.tup {vs : List V} {ds : List D} {p : Addr} (k : Res Γ M H (.dat (.tup ds)) Q) (dom : ∀ a, M a → H a ≠ none) (h : Dats Γ M H vs ds) (hp : H p = none) : Q (.ref p) (upd H p (.tup vs)) :=
  k _ _ (fun _ => False) (upd_keep hp) (fun _ z => z.elim) ⟨.tup (.inl ⟨fun z => z.elim (fun m => dom p m hp) id, .inl upd_same⟩) (h.go (go_new hp _ fun a z => .inl (z.elim id False.elim))), fun _ z => z⟩
theorem Res.lst {vs : List V} {ds : List D} {p : Addr} (k : Res Γ M H (.lst ds) Q) (h : Dats Γ M H vs ds) (hp : H p = none) : Q (.ref p) (upd H p (.lst vs)) :=
  k _ _ (fun a => a = p) (upd_keep hp) (fun a z => by subst z; exact ⟨hp, by rw [upd_same]; simp⟩) ⟨p, vs, rfl, upd_same, h.go (go_new hp _ fun a z => z), fun a => Iff.rfl⟩
end

/-! ### operations of one, two, many values -/
def Prim1 (Γ : Gam) (r : V → Hp → VK → Prop) (p : Sl Γ → Option (Sl Γ)) : Prop := ∀ (M : Addr → Prop) (H : Hp) (x : V) (sx s : Sl Γ) (Gx : Addr → Prop) (Q : VK), (∀ a, M a → H a ≠ none) → p sx = some s → SR Γ M H x sx Gx → Res Γ M H s Q → r x H Q
def Prim2 (Γ : Gam) (r : R2) (p : Sl Γ → Sl Γ → Option (Sl Γ)) : Prop := ∀ (M : Addr → Prop) (H : Hp) (x y : V) (sx sy s : Sl Γ) (Gx Gy : Addr → Prop) (Q : VK), (∀ a, M a → H a ≠ none) → p sx sy = some s → SR Γ M H x sx Gx → SR Γ M H y sy Gy → Res Γ M H s Q → r x y H Q
inductive SRs (Γ : Gam) (M : Addr → Prop) (H : Hp) : List V → List (Sl Γ) → Prop
  | nil : SRs Γ M H [] []
  | cons {v : V} {vs : List V} {s : Sl Γ} {ss : List (Sl Γ)} {Gf : Addr → Prop} : SR Γ M H v s Gf → SRs Γ M H vs ss → SRs Γ M H (v :: vs) (s :: ss)
def PrimN (Γ : Gam) (r : List V → Hp → VK → Prop) (p : List (Sl Γ) → Option (Sl Γ)) : Prop := ∀ (M : Addr → Prop) (H : Hp) (xs : List V) (ss : List (Sl Γ)) (s : Sl Γ) (Q : VK), (∀ a, M a → H a ≠ none) → p ss = some s → SRs Γ M H xs ss → Res Γ M H s Q → r xs H Q
def m1 {Γ : Gam} (p : Sl Γ → Option (Sl Γ)) (a : AE Γ) : Ev Γ := fun env =>
  match evA a env with
  | none => none
  | some (x, env1) => match peek x env1 with
    | none => none
    | some sx => (p sx).map fun s => (s, env1)
def m2 {Γ : Gam} (p : Sl Γ → Sl Γ → Option (Sl Γ)) (a b : AE Γ) : Ev Γ := fun env =>
  match evA a env with
  | none => none
  | some (x, env1) => match evA b env1 with
    | none => none
    | some (y, env2) => match peek x env2, peek y env2 with
      | some sx, some sy => (p sx sy).map fun s => (s, env2)
      | _, _ => none
def evAs {Γ : Gam} : List (AE Γ) → Env Γ → Option (List (Ag Γ) × Env Γ)
  | [], env => some ([], env)
  | a :: as, env => match evA a env with
    | none => none
    | some (x, env1) => (evAs as env1).map fun p => (x :: p.1, p.2)
def peeks {Γ : Gam} : List (Ag Γ) → Env Γ → Option (List (Sl Γ))
  | [], _ => some []
  | a :: as, env => match peek a env, peeks as env with
    | some s, some ss => some (s :: ss)
    | _, _ => none
def mN {Γ : Gam} (p : List (Sl Γ) → Option (Sl Γ)) (as : List (AE Γ)) : Ev Γ := fun env =>
  match evAs as env with
  | none => none
  | some (xs, env1) => match peeks xs env1 with
    | none => none
    | some ss => (p ss).map fun s => (s, env1)
section
variable {Γ : Gam} {X : Cx} {w : Wd} {σ : St} {env env' : Env Γ} {a b : Expr} {fa fb : AE Γ} {Q : VK} {s : Sl Γ}
theorem run1 {r : V → Hp → VK → Prop} {p : Sl Γ → Option (Sl Γ)} (hp : Prim1 Γ r p) (ha : SdA Γ X a fa) (hK : Gd Γ X) (he : m1 p fa env = some (s, env')) (E : ER Γ w σ env)
    (k : ∀ v w' Fr, ER Γ w' σ env' → TR Γ w' v s Fr → Step w w' → Fresh w Fr → Q v w'.H) : wE X a σ w.H fun x H1 => r x H1 Q := by
  unfold m1 at he
  cases g1 : evA fa env with
  | none => rw [g1] at he; cases he
  | some q =>
    obtain ⟨x, env1⟩ := q
    rw [g1] at he
    cases g2 : peek x env1 with
    | none => simp only [g2] at he; cases he
    | some sx =>
      simp only [g2] at he
      cases g3 : p sx with
      | none => rw [g3] at he; cases he
      | some s1 =>
        rw [g3] at he
        cases he
        refine sda_run ha hK g1 E fun v w1 Fr E1 A1 p1 f1 => ?_
        obtain ⟨G1, r1⟩ := A1.peek E1 g2
        exact hp w1.M w1.H v sx s G1 Q E1.dom g3 r1 (res_of E1 fun v2 w2 Fr2 E2 T2 p2 f2 => k v2 w2 Fr2 E2 T2 (p1.trans p2 E.dom) (f2.back p1))
theorem run2 {r : R2} {p : Sl Γ → Sl Γ → Option (Sl Γ)} (hp : Prim2 Γ r p) (ha : SdA Γ X a fa) (hb : SdA Γ X b fb) (hK : Gd Γ X) (he : m2 p fa fb env = some (s, env')) (E : ER Γ w σ env)
    (k : ∀ v w' Fr, ER Γ w' σ env' → TR Γ w' v s Fr → Step w w' → Fresh w Fr → Q v w'.H) : wE X a σ w.H fun x H1 => wE X b σ H1 fun y H2 => r x y H2 Q := by
  unfold m2 at he
  cases g1 : evA fa env with
  | none => rw [g1] at he; cases he
  | some q =>
    obtain ⟨x, env1⟩ := q
    simp only [g1] at he
    cases g2 : evA fb env1 with
    | none => simp only [g2] at he; cases he
    | some q =>
      obtain ⟨y, env2⟩ := q
      simp only [g2] at he
      cases g3 : peek x env2 with
      | none => simp only [g3] at he; cases he
      | some sx =>
        cases g4 : peek y env2 with
        | none => simp only [g3, g4] at he; cases he
        | some sy =>
          simp only [g3, g4] at he
          cases g5 : p sx sy with
          | none => rw [g5] at he; cases he
          | some s1 =>
            rw [g5] at he
            cases he
            refine sda_run ha hK g1 E fun v w1 Fr E1 A1 p1 f1 => ?_
            refine sda_run hb hK g2 E1 fun u w2 Fr2 E2 A2 p2 f2 => ?_
            obtain ⟨G1, r1⟩ := (A1.step E1 p2).peek E2 g3
            obtain ⟨G2, r2⟩ := A2.peek E2 g4
            have p12 := p1.trans p2 E.dom
            exact hp w2.M w2.H v u sx sy s G1 G2 Q E2.dom g5 r1 r2 (res_of E2 fun v3 w3 Fr3 E3 T3 p3 f3 => k v3 w3 Fr3 E3 T3 (p12.trans p3 E.dom) (f3.back p12))
/-- several operands -/
inductive SdL (Γ : Gam) (X : Cx) : List Expr → List (AE Γ) → Prop
  | nil : SdL Γ X [] []
  | cons {e : Expr} {es : List Expr} {a : AE Γ} {as : List (AE Γ)} : SdA Γ X e a → NS X e → SdL Γ X es as → SdL Γ X (e :: es) (a :: as)
theorem SdL.ns : ∀ {es : List Expr} {as : List (AE Γ)}, SdL Γ X es as → ∀ e ∈ es, NS X e
  | _, _, .nil, _, h => nomatch h
  | _, _, .cons _ n r, e, h => by
    rcases List.mem_cons.mp h with z | z
    · subst z; exact n
    · exact SdL.ns r e z
/-- the operands' values, each with what it owns -/
inductive ARs (Γ : Gam) (w : Wd) (σ : St) : List V → List (Ag Γ) → List (Addr → Prop) → Prop
  | nil : ARs Γ w σ [] [] []
  | cons {v : V} {vs : List V} {a : Ag Γ} {as : List (Ag Γ)} {Fr : Addr → Prop} {Frs : List (Addr → Prop)} : AR Γ w σ v a Fr → (∀ G ∈ Frs, ∀ x, Fr x → ¬ G x) → ARs Γ w σ vs as Frs → ARs Γ w σ (v :: vs) (a :: as) (Fr :: Frs)
theorem ARs.step {w' : Wd} (E : ER Γ w σ env) (p : Step w w') : ∀ {vs : List V} {as : List (Ag Γ)} {Frs : List (Addr → Prop)}, ARs Γ w σ vs as Frs → ARs Γ w' σ vs as Frs
  | _, _, _, .nil => .nil
  | _, _, _, .cons h d r => .cons (h.step E p) d (ARs.step E p r)
theorem ARs.peeks (E : ER Γ w σ env) : ∀ {vs : List V} {as : List (Ag Γ)} {Frs : List (Addr → Prop)} {ss : List (Sl Γ)}, ARs Γ w σ vs as Frs → peeks as env = some ss → SRs Γ w.M w.H vs ss
  | _, _, _, _, .nil, h => by cases h; exact .nil
  | _, _, _, _, .cons (a := a) (as := as) h d r, e => by
    unfold G.peeks at e
    cases g1 : peek a env with
    | none => simp only [g1] at e; cases e
    | some s =>
      cases g2 : G.peeks as env with
      | none => simp only [g1, g2] at e; cases e
      | some ss =>
        simp only [g1, g2] at e
        cases e
        obtain ⟨G1, r1⟩ := h.peek E g1
        exact .cons r1 (ARs.peeks E r g2)
theorem ARs.fresh {w0 : Wd} : ∀ {vs : List V} {as : List (Ag Γ)} {Frs : List (Addr → Prop)}, ARs Γ w σ vs as Frs → (∀ G ∈ Frs, Fresh w0 G) → True
  | _, _, _, _, _ => trivial
theorem AR.here {v : V} {a : Ag Γ} {Fr : Addr → Prop} (E : ER Γ w σ env) (h : AR Γ w σ v a Fr) : ∀ x, Fr x → w.H x ≠ none ∧ ∀ i, ¬ w.F i x := fun x f => by
  cases a with
  | brw i => exact absurd f (h.2 x)
  | val s => exact ⟨E.dom x (h.sub x f), fun i => h.off x i f⟩
theorem sdl_run (hK : Gd Γ X) : ∀ {es : List Expr} {as : List (AE Γ)} {xs : List (Ag Γ)} {env env' : Env Γ} {w : Wd} {Q : List V → Hp → Prop}, SdL Γ X es as → evAs as env = some (xs, env') → ER Γ w σ env →
    (∀ vs w' Frs, ER Γ w' σ env' → ARs Γ w' σ vs xs Frs → Step w w' → (∀ G ∈ Frs, Fresh w G) → Q vs w'.H) → wL X es σ w.H Q
  | _, _, _, _, _, w, _, .nil, he, E, k => by
    cases he
    exact k [] w [] E .nil (Step.refl w) (fun _ h => nomatch h)
  | _, _, _, env, _, w, Q, .cons (e := e) (es := es) (a := a) (as := as) h1 n h2, he, E, k => by
    unfold evAs at he
    cases g1 : evA a env with
    | none => simp only [g1] at he; cases he
    | some q =>
      obtain ⟨x, env1⟩ := q
      simp only [g1] at he
      cases g2 : evAs as env1 with
      | none => simp only [g2] at he; cases he
      | some q =>
        obtain ⟨xs1, env2⟩ := q
        simp only [g2, Option.map_some] at he
        cases he
        show wE X e σ w.H fun v H1 => wL X es σ H1 fun vs H2 => Q (v :: vs) H2
        refine sda_run h1 hK g1 E fun v w1 Fr E1 A1 p1 f1 => ?_
        refine sdl_run hK h2 g2 E1 fun vs w2 Frs E2 A2 p2 f2 => ?_
        refine k (v :: vs) w2 (Fr :: Frs) E2 (.cons (A1.step E1 p2) (fun G hG x hx gx => ?_) A2) (p1.trans p2 E.dom) (fun G hG => ?_)
        · obtain ⟨q1, q2⟩ := A1.here E1 x hx
          rcases f2 G hG x gx with ⟨i, z⟩ | z
          · exact q2 i z
          · exact q1 z
        · rcases List.mem_cons.mp hG with z | z
          · subst z; exact f1
          · exact (f2 G z).back p1
theorem runN {r : List V → Hp → VK → Prop} {p : List (Sl Γ) → Option (Sl Γ)} {es : List Expr} {as : List (AE Γ)} (hp : PrimN Γ r p) (ha : SdL Γ X es as) (hK : Gd Γ X) (he : mN p as env = some (s, env')) (E : ER Γ w σ env)
    (k : ∀ v w' Fr, ER Γ w' σ env' → TR Γ w' v s Fr → Step w w' → Fresh w Fr → Q v w'.H) : wL X es σ w.H fun vs H1 => r vs H1 Q := by
  unfold mN at he
  cases g1 : evAs as env with
  | none => simp only [g1] at he; cases he
  | some q =>
    obtain ⟨xs, env1⟩ := q
    simp only [g1] at he
    cases g2 : peeks xs env1 with
    | none => simp only [g2] at he; cases he
    | some ss =>
      simp only [g2] at he
      cases g3 : p ss with
      | none => rw [g3] at he; cases he
      | some s1 =>
        rw [g3] at he
        cases he
        refine sdl_run hK ha g1 E fun vs w1 Frs E1 A1 p1 f1 => ?_
        exact hp w1.M w1.H vs ss s Q E1.dom g3 (A1.peeks E1 g2) (res_of E1 fun v2 w2 Fr2 E2 T2 p2 f2 => k v2 w2 Fr2 E2 T2 (p1.trans p2 E.dom) (f2.back p1))
end
end G

/-! G2: operations on values -/
namespace G
open PySem L2

mutual
def D.toPy : D → PyData
  | .non => .none
  | .bl b => .bool b
  | .int i => .int i
  | .str s => .str s
  | .tup xs => .tuple (D.toPys xs)
  | .lst xs => .list (D.toPys xs)
  | .ins _ _ => .dict []
def D.toPys : List D → List PyData
  | [] => []
  | x :: xs => D.toPy x :: D.toPys xs
end
mutual
theorem Dat.dp {Γ : Gam} {M : Addr → Prop} {H : Hp} : ∀ {v : V} {d : D}, Dat Γ M H v d → d.toPy.canLay0 = true → Dp Γ.K H v d.toPy
  | _, _, .non, _ => by unfold D.toPy; exact .non
  | _, _, .bl b, _ => by unfold D.toPy; exact .bl b
  | _, _, .int i, _ => by unfold D.toPy; exact .int i
  | _, _, .str x, _ => by unfold D.toPy; exact .str x
  | _, _, .tup h r, c => by
    unfold D.toPy at c ⊢
    exact .tup h.sq (Dats.dp r (by unfold PyData.canLay0 at c; exact c))
  | _, _, .lst n h r, c => by
    unfold D.toPy at c ⊢
    exact .lst (SqL.of h) (Dats.dp r (by unfold PyData.canLay0 at c; exact c))
  | _, _, .ins e n h l r, c => by unfold D.toPy at c; unfold PyData.canLay0 at c; cases c
theorem Dats.dp {Γ : Gam} {M : Addr → Prop} {H : Hp} : ∀ {vs : List V} {ds : List D}, Dats Γ M H vs ds → PyData.canLayAll0 (D.toPys ds) = true → DpAll Γ.K H vs (D.toPys ds)
  | _, _, .nil, _ => by unfold D.toPys; exact .nil
  | _, _, .cons h r, c => by
    unfold D.toPys at c ⊢
    unfold PyData.canLayAll0 at c
    rw [Bool.and_eq_true] at c
    exact .cons (h.dp c.1) (Dats.dp r c.2)
end
theorem toPys_map : ∀ xs : List D, D.toPys xs = xs.map D.toPy
  | [] => by unfold D.toPys; rfl
  | x :: xs => by unfold D.toPys; rw [toPys_map xs]; rfl

/-- the data that is read there now -/
def Sl.view {Γ : Gam} : Sl Γ → Option D
  | .dat d => some d
  | .lst ds => some (.lst ds)
  | .scr ns => some (.lst (ns.map D.int))
  | _ => Option.none
theorem dats_ints {Γ : Gam} {M : Addr → Prop} {H : Hp} : ∀ ns : List Int, Dats Γ M H (ns.map V.int) (ns.map D.int)
  | [] => .nil
  | n :: ns => .cons (.int n) (dats_ints ns)
section
variable {Γ : Gam} {X : Cx} {M : Addr → Prop} {H : Hp} {v x y : V} {s sx sy : Sl Γ} {G' Gx Gy : Addr → Prop} {d : D} {ds : List D}
/-- a list, a tuple as it is read now -/
theorem SR.list (h : SR Γ M H v s G') (e : s.view = some (.lst ds)) : ∃ p vs, v = .ref p ∧ SqL Γ.K H p vs ∧ Dats Γ M H vs ds := by
  cases s with
  | dat d =>
    cases e
    cases h.1 with
    | lst n hp r => exact ⟨_, _, rfl, SqL.of hp, r⟩
  | lst es => cases e; obtain ⟨p, vs, e, hp, r, n⟩ := h; exact ⟨p, vs, e, SqL.of hp, r⟩
  | scr ns => cases e; obtain ⟨⟨a, e, h⟩, n⟩ := h; exact ⟨a, _, e, h.sq, dats_ints ns⟩
  | _ => cases e
theorem SR.tuple (h : SR Γ M H v s G') (e : s.view = some (.tup ds)) : ∃ p vs, v = .ref p ∧ TupM Γ.K M H p vs ∧ Dats Γ M H vs ds := by
  cases s with
  | dat d =>
    cases e
    cases h.1 with
    | tup hp r => exact ⟨_, _, rfl, hp, r⟩
  | lst es => cases e
  | scr ns => cases e
  | _ => cases e
theorem SR.dp (h : SR Γ M H v s G') (e : s.view = some d) (c : d.toPy.canLay0 = true) : Dp Γ.K H v d.toPy := by
  cases s with
  | dat d => cases e; exact h.1.dp c
  | lst es =>
    cases e
    obtain ⟨p, vs, rfl, hq, r⟩ := h.list (ds := es) rfl
    unfold D.toPy at c ⊢
    exact .lst hq (r.dp (by unfold PyData.canLay0 at c; exact c))
  | scr ns =>
    cases e
    obtain ⟨p, vs, rfl, hq, r⟩ := h.list (ds := ns.map D.int) rfl
    unfold D.toPy at c ⊢
    exact .lst hq (r.dp (by unfold PyData.canLay0 at c; exact c))
  | _ => cases e
theorem SR.scal (h : SR Γ M H v s G') : (∀ i, s.view = some (.int i) → v = .int i) ∧ (∀ b, s.view = some (.bl b) → v = .bl b) ∧ (∀ t, s.view = some (.str t) → v = .str t) ∧ (s.view = some .non → v = .non) := by
  cases s with
  | dat d =>
    refine ⟨fun i e => ?_, fun i e => ?_, fun i e => ?_, fun e => ?_⟩ <;> (cases e; cases h.1; rfl)
  | lst es => exact ⟨fun _ e => (nomatch e), fun _ e => (nomatch e), fun _ e => (nomatch e), fun e => (nomatch e)⟩
  | scr ns => exact ⟨fun _ e => (nomatch e), fun _ e => (nomatch e), fun _ e => (nomatch e), fun e => (nomatch e)⟩
  | _ => exact ⟨fun _ e => (nomatch e), fun _ e => (nomatch e), fun _ e => (nomatch e), fun e => (nomatch e)⟩
theorem SR.int {i : Int} (h : SR Γ M H v s G') (e : s.view = some (.int i)) : v = .int i := h.scal.1 i e
theorem SR.bl {b : Bool} (h : SR Γ M H v s G') (e : s.view = some (.bl b)) : v = .bl b := h.scal.2.1 b e
theorem SR.str {t : Str} (h : SR Γ M H v s G') (e : s.view = some (.str t)) : v = .str t := h.scal.2.2.1 t e
theorem SR.non (h : SR Γ M H v s G') (e : s.view = some .non) : v = .non := h.scal.2.2.2 e
end

/-! ### results -/
def di {Γ : Gam} (i : Int) : Sl Γ := .dat (.int i)
def db {Γ : Gam} (b : Bool) : Sl Γ := .dat (.bl b)
def ds {Γ : Gam} (t : Str) : Sl Γ := .dat (.str t)

/-! ### ints and +, - .. -/
def pAdd {Γ : Gam} (x y : Sl Γ) : Option (Sl Γ) :=
  match x.view, y.view with
  | some (.int i), some (.int j) => some (di (i + j))
  | some (.str a), some (.str b) => if a.length + b.length ≤ sizeLine then some (ds (a ++ b)) else none
  | some (.tup a), some (.tup b) => if a.length + b.length ≤ sizeLine then some (.dat (.tup (a ++ b))) else none
  | some (.lst a), some (.lst b) => match x, y with
    | .scr _, _ => none
    | _, .scr _ => none
    | _, _ => if a.length + b.length ≤ sizeLine then some (.lst (a ++ b)) else none
  | _, _ => none
def rAddAll (K : PySem.W.Frag) : R2 := fun x y H Q => rI0 (fun i j => V.int (i + j)) x y H Q ∨ ((∃ i j, x = V.str i ∧ y = V.str j ∧ i.length + j.length ≤ sizeLine ∧ Q (.str (i ++ j)) H) ∨ (rCatA K x y H Q ∨ rCat x y H Q))
theorem op_addAll {X : Cx} : OpR X (binaryOp .Add) (rAddAll X.K) := OpR.or op_add (OpR.or op_add_str (OpR.or op_catA op_cat))
theorem SR.lstW {Γ : Gam} {M : Addr → Prop} {H : Hp} {v : V} {s : Sl Γ} {G' : Addr → Prop} {ds : List D} (h : SR Γ M H v s G') (e : s.view = some (.lst ds)) (n : ∀ ns, s ≠ .scr ns) : ∃ p vs, v = .ref p ∧ H p = some (.lst vs) ∧ Dats Γ M H vs ds := by
  cases s with
  | dat d =>
    cases e
    cases h.1 with
    | lst n hp r => exact ⟨_, _, rfl, hp, r⟩
  | lst es => cases e; obtain ⟨p, vs, e, hp, r, n⟩ := h; exact ⟨p, vs, e, hp, r⟩
  | scr ns => exact absurd rfl (n ns)
  | _ => cases e
theorem pAdd_ok {Γ : Gam} : Prim2 Γ (rAddAll Γ.K) pAdd := by
  intro M H x y sx sy s Gx Gy Q dom hp hx hy k
  unfold pAdd at hp
  split at hp
  · rename_i i j e1 e2
    cases hp
    cases hx.int e1; cases hy.int e2
    exact .inl ⟨i, j, rfl, rfl, k.dat (.int _)⟩
  · rename_i a b e1 e2
    split at hp
    · rename_i hl
      cases hp
      cases hx.str e1; cases hy.str e2
      exact .inr (.inl ⟨a, b, rfl, rfl, hl, k.dat (.str _)⟩)
    · cases hp
  · rename_i a b e1 e2
    split at hp
    · rename_i hl
      cases hp
      obtain ⟨p, vs, rfl, hp, r⟩ := hx.tuple e1
      obtain ⟨q, ws, rfl, hq, r'⟩ := hy.tuple e2
      refine .inr (.inr (.inl ⟨p, q, vs, ws, rfl, rfl, hp.sq, hq.sq, by rw [r.length, r'.length]; exact hl, fun e => ?_, fun _ e => ?_, fun _ _ l hl => k.tup dom (r.append r') hl⟩))
      · subst e; cases r; exact k.dat (.tup hq r')
      · subst e; cases r'; rw [List.append_nil] at k; exact k.dat (.tup hp r)
    · cases hp
  · rename_i a b e1 e2
    split at hp
    · cases hp
    · cases hp
    · rename_i n1 n2
      split at hp
      · rename_i hl
        cases hp
        obtain ⟨p, vs, rfl, hp, r⟩ := hx.lstW e1 (fun ns z => n1 ns z)
        obtain ⟨q, ws, rfl, hq, r'⟩ := hy.lstW e2 (fun ns z => n2 ns z)
        exact .inr (.inr (.inr ⟨p, q, vs, ws, rfl, rfl, hp, hq, by rw [r.length, r'.length]; exact hl, fun l hl => k.lst (r.append r') hl⟩))
      · cases hp
  · cases hp
/-- an operation on two ints under a condition -/
def pI {Γ : Gam} (C : Int → Int → Prop) [∀ i j, Decidable (C i j)] (g : Int → Int → D) (x y : Sl Γ) : Option (Sl Γ) :=
  match x.view, y.view with
  | some (.int i), some (.int j) => if C i j then some (.dat (g i j)) else none
  | _, _ => none
theorem pI_ok {Γ : Gam} {C C' : Int → Int → Prop} [∀ i j, Decidable (C i j)] {g : Int → Int → D} {g' : Int → Int → V} (hc : ∀ i j, C i j → C' i j) (hg : ∀ M H i j, C i j → Dat Γ M H (g' i j) (g i j)) : Prim2 Γ (rI C' g') (pI C g) := by
  intro M H x y sx sy s Gx Gy Q dom hp hx hy k
  unfold pI at hp
  split at hp
  · rename_i i j e1 e2
    split at hp
    · rename_i c
      cases hp
      cases hx.int e1; cases hy.int e2
      exact ⟨i, j, rfl, rfl, hc i j c, k.dat (hg M H i j c)⟩
    · cases hp
  · cases hp
def p0 {Γ : Gam} (g : Int → Int → D) (x y : Sl Γ) : Option (Sl Γ) :=
  match x.view, y.view with
  | some (.int i), some (.int j) => some (.dat (g i j))
  | _, _ => none
theorem p0_ok {Γ : Gam} {g : Int → Int → D} {g' : Int → Int → V} (hg : ∀ M H i j, Dat Γ M H (g' i j) (g i j)) : Prim2 Γ (rI0 g') (p0 g) := by
  intro M H x y sx sy s Gx Gy Q dom hp hx hy k
  unfold p0 at hp
  split at hp
  · rename_i i j e1 e2
    cases hp
    cases hx.int e1; cases hy.int e2
    exact ⟨i, j, rfl, rfl, k.dat (hg M H i j)⟩
  · cases hp
def pSub {Γ : Gam} : Sl Γ → Sl Γ → Option (Sl Γ) := p0 fun i j => .int (i - j)
theorem pSub_ok {Γ : Gam} : Prim2 Γ (rI0 fun i j => .int (i - j)) (pSub (Γ := Γ)) := p0_ok fun _ _ _ _ => .int _
def cMul (i j : Int) : Prop := i.natAbs < 2 ^ 64 ∨ j.natAbs < 2 ^ 64
instance (i j : Int) : Decidable (cMul i j) := by unfold cMul; infer_instance
theorem cMul_ok (i j : Int) (h : cMul i j) : CMul i j := by
  unfold cMul at h
  unfold CMul
  omega
def pMul {Γ : Gam} : Sl Γ → Sl Γ → Option (Sl Γ) := pI cMul fun i j => .int (i * j)
theorem pMul_ok {Γ : Gam} : Prim2 Γ (rI CMul fun i j => .int (i * j)) (pMul (Γ := Γ)) := pI_ok cMul_ok fun _ _ _ _ _ => .int _
def cDiv (_ j : Int) : Prop := 0 < j ∧ j < 2 ^ 200
instance (i j : Int) : Decidable (cDiv i j) := by unfold cDiv; infer_instance
def pDiv {Γ : Gam} : Sl Γ → Sl Γ → Option (Sl Γ) := pI cDiv fun i j => .int (i / j)
theorem pDiv_ok {Γ : Gam} : Prim2 Γ (rI CDivW fun i j => .int (i / j)) (pDiv (Γ := Γ)) := pI_ok (fun i j h => wide_div (b := 200) h.1 (by have h1 := h.1; have h2 := h.2; omega) (by decide) (by decide)) fun _ _ _ _ _ => .int _
def cMod (_ j : Int) : Prop := 0 < j
instance (i j : Int) : Decidable (cMod i j) := by unfold cMod; infer_instance
def pMod {Γ : Gam} : Sl Γ → Sl Γ → Option (Sl Γ) := pI cMod fun i j => .int (i % j)
theorem pMod_ok {Γ : Gam} : Prim2 Γ (rI (fun _ j => 0 < j) fun i j => .int (i % j)) (pMod (Γ := Γ)) := pI_ok (fun i j h => h) fun _ _ _ _ _ => .int _
def cPow (i j : Int) : Prop := 0 ≤ j ∧ j ≤ 1000 ∧ i.natAbs < 2 ^ 64
instance (i j : Int) : Decidable (cPow i j) := by unfold cPow; infer_instance
def pPow {Γ : Gam} : Sl Γ → Sl Γ → Option (Sl Γ) := pI cPow fun i j => .int (i ^ j.toNat)
theorem pPow_ok {Γ : Gam} : Prim2 Γ (rI CPow fun i j => .int (i ^ j.toNat)) (pPow (Γ := Γ)) := pI_ok (fun i j h => ⟨h.1, Int.le_trans h.2.1 (by decide), h.2.2⟩) fun _ _ _ _ _ => .int _
def pNeg {Γ : Gam} (x : Sl Γ) : Option (Sl Γ) :=
  match x.view with
  | some (.int i) => some (di (-i))
  | _ => none
theorem pNeg_ok {Γ : Gam} : Prim1 Γ (rU fun i => .int (-i)) (pNeg (Γ := Γ)) := by
  intro M H x sx s Gx Q dom hp hx k
  unfold pNeg at hp
  split at hp
  · rename_i i e1
    cases hp
    cases hx.int e1
    exact ⟨i, rfl, k.dat (.int _)⟩
  · cases hp

/-! ### comparisons -/
def okD (d : D) : Bool := SeqAt.shaped d.toPy
def eqD (a b : D) : Bool := PyData.eqv a.toPy b.toPy
def pEqG {Γ : Gam} (g : Bool → Bool) (x y : Sl Γ) : Option (Sl Γ) :=
  match x.view, y.view with
  | some a, some b => if okD a && okD b then some (db (g (eqD a b))) else none
  | _, _ => none
theorem pEqG_ok {Γ : Gam} {g : Bool → Bool} {r : R2} (h : ∀ x y H Q d e, Dp Γ.K H x d → Dp Γ.K H y e → SeqAt.shaped d = true → SeqAt.shaped e = true → Q (V.bl (g (PyData.eqv d e))) H → r x y H Q) : Prim2 Γ r (pEqG g) := by
  intro M H x y sx sy s Gx Gy Q dom hp hx hy k
  unfold pEqG at hp
  split at hp
  · rename_i a b e1 e2
    split at hp
    · rename_i c
      cases hp
      rw [Bool.and_eq_true] at c
      exact h x y H Q a.toPy b.toPy (hx.dp e1 (SeqAt.canLay_of_shaped c.1)) (hy.dp e2 (SeqAt.canLay_of_shaped c.2)) c.1 c.2 (k.dat (.bl _))
    · cases hp
  · cases hp
def pEq {Γ : Gam} : Sl Γ → Sl Γ → Option (Sl Γ) := pEqG id
def pNe {Γ : Gam} : Sl Γ → Sl Γ → Option (Sl Γ) := pEqG not
theorem pEq_ok {Γ : Gam} : Prim2 Γ (rEqD Γ.K) (pEq (Γ := Γ)) := pEqG_ok fun x y H Q d e h1 h2 h3 h4 q => ⟨d, e, h1, h2, h3, h4, q⟩
theorem pNe_ok {Γ : Gam} : Prim2 Γ (rNeD Γ.K) (pNe (Γ := Γ)) := pEqG_ok fun x y H Q d e h1 h2 h3 h4 q => ⟨d, e, h1, h2, h3, h4, q⟩
/-- order of ints and of texts -/
def pOrd {Γ : Gam} (g : Int → Int → Bool) (t : Str → Str → Bool) (x y : Sl Γ) : Option (Sl Γ) :=
  match x.view, y.view with
  | some (.int i), some (.int j) => some (db (g i j))
  | some (.str a), some (.str b) => some (db (t a b))
  | _, _ => none
def rOrd (g : Int → Int → Bool) (t : Str → Str → Bool) : R2 := fun x y H Q => rI0 (fun i j => V.bl (g i j)) x y H Q ∨ ∃ i j, x = V.str i ∧ y = V.str j ∧ Q (V.bl (t i j)) H
theorem pOrd_ok {Γ : Gam} {g : Int → Int → Bool} {t : Str → Str → Bool} : Prim2 Γ (rOrd g t) (pOrd g t) := by
  intro M H x y sx sy s Gx Gy Q dom hp hx hy k
  unfold pOrd at hp
  split at hp
  · rename_i i j e1 e2
    cases hp
    cases hx.int e1; cases hy.int e2
    exact .inl ⟨i, j, rfl, rfl, k.dat (.bl _)⟩
  · rename_i i j e1 e2
    cases hp
    cases hx.str e1; cases hy.str e2
    exact .inr ⟨i, j, rfl, rfl, k.dat (.bl _)⟩
  · cases hp
def sLt (a b : Str) : Bool := decide (a.cps.toList < b.cps.toList)
def pLt {Γ : Gam} : Sl Γ → Sl Γ → Option (Sl Γ) := pOrd (fun i j => decide (i < j)) sLt
def pLe {Γ : Gam} : Sl Γ → Sl Γ → Option (Sl Γ) := pOrd (fun i j => decide (i ≤ j)) fun a b => !sLt b a
def pGt {Γ : Gam} : Sl Γ → Sl Γ → Option (Sl Γ) := pOrd (fun i j => decide (j < i)) fun a b => sLt b a
def pGe {Γ : Gam} : Sl Γ → Sl Γ → Option (Sl Γ) := pOrd (fun i j => decide (j ≤ i)) fun a b => !sLt a b
theorem op_ltO {X : Cx} : OpR X (compareOp .Lt) (rOrd (fun i j => decide (i < j)) sLt) := OpR.or op_lt op_lt_str
theorem op_leO {X : Cx} : OpR X (compareOp .LtE) (rOrd (fun i j => decide (i ≤ j)) fun a b => !sLt b a) := OpR.or op_le op_le_str
theorem op_gtO {X : Cx} : OpR X (compareOp .Gt) (rOrd (fun i j => decide (j < i)) fun a b => sLt b a) := OpR.or op_gt op_gt_str
theorem op_geO {X : Cx} : OpR X (compareOp .GtE) (rOrd (fun i j => decide (j ≤ i)) fun a b => !sLt a b) := OpR.or op_ge op_ge_str
end G

/-! G3: in, is, subscripts, slices, built-ins -/
namespace G
open PySem L2

/-! ### in, not in -/
def isFlat : D → Bool
  | .non => true
  | .bl _ => true
  | .int _ => true
  | .str _ => true
  | _ => false
theorem Dat.flat {Γ : Gam} {M : Addr → Prop} {H : Hp} {v : V} {d : D} (h : Dat Γ M H v d) (f : isFlat d = true) : flatV v = true := by
  cases h <;> first | rfl | cases f
theorem eqV_eq {Γ : Gam} {M : Addr → Prop} {H : Hp} {v w : V} {d e : D} (h : Dat Γ M H v d) (h' : Dat Γ M H w e) (f : isFlat d = true) (f' : isFlat e = true) : eqV v w = eqD d e := by
  cases h <;> first | exact absurd f Bool.false_ne_true | skip
  all_goals (cases h' <;> first | exact absurd f' Bool.false_ne_true | (simp only [eqD, D.toPy, PyData.eqv, eqV]))
theorem Dats.flat {Γ : Gam} {M : Addr → Prop} {H : Hp} {v : V} {d : D} (h : Dat Γ M H v d) (f : isFlat d = true) : ∀ {vs : List V} {ds : List D}, Dats Γ M H vs ds → ds.all isFlat = true → vs.all flatV = true ∧ inV v vs = ds.any fun z => eqD z d
  | _, _, .nil, _ => ⟨rfl, rfl⟩
  | _, _, .cons q r, a => by
    rw [List.all_cons, Bool.and_eq_true] at a
    obtain ⟨i1, i2⟩ := Dats.flat h f r a.2
    refine ⟨by rw [List.all_cons, q.flat a.1, i1]; rfl, ?_⟩
    unfold inV at i2 ⊢
    rw [List.any_cons, List.any_cons, i2, eqV_eq q h a.1 f]
/-- one text within another -/
def sIn (a b : Str) : Bool :=
  match a.cps.toList with
  | [c] => decide (c ∈ b.cps.toList)
  | _ => !(Builtin.Str.occurrences b a 0 b.length 1).isEmpty
def pInG {Γ : Gam} (g : Bool → Bool) (x y : Sl Γ) : Option (Sl Γ) :=
  match x.view, y.view with
  | some a, some (.lst ds) => if okD a && okD (.lst ds) then some (db (g (ds.any fun z => eqD z a))) else none
  | some a, some (.tup ds) => if isFlat a && ds.all isFlat then some (db (g (ds.any fun z => eqD z a))) else none
  | some (.str a), some (.str b) => some (db (g (sIn a b)))
  | _, _ => none
def rInAll (K : PySem.W.Frag) (rD rF rC rS : R2) : R2 := fun x y H Q => rD x y H Q ∨ (rF x y H Q ∨ (rC x y H Q ∨ rS x y H Q))
def rCin (g : Bool → Bool) : R2 := fun x y H Q => ∃ (c : Nat) (z : Str), x = .str ⟨#[c]⟩ ∧ y = .str z ∧ Q (.bl (g (decide (c ∈ z.cps.toList)))) H
def rSin (g : Bool → Bool) : R2 := fun x y H Q => ∃ i j, x = V.str i ∧ y = V.str j ∧ Q (.bl (g (!(Builtin.Str.occurrences j i 0 j.length 1).isEmpty))) H
theorem toPys_any (ds : List D) (a : D) : (ds.any fun z => eqD z a) = (D.toPys ds).any fun z => PyData.eqv z a.toPy := by
  rw [toPys_map, List.any_map]
  rfl
theorem Sl.str_view {Γ : Gam} {M : Addr → Prop} {H : Hp} {v : V} {s : Sl Γ} {G' : Addr → Prop} {d : D} (h : SR Γ M H v s G') (e : s.view = some d) (f : isFlat d = true) : Dat Γ M H v d := by
  cases s with
  | dat d' => cases e; exact h.1
  | lst es => cases e; cases f
  | scr ns => cases e; cases f
  | _ => cases e
theorem pInG_ok {Γ : Gam} {g : Bool → Bool} {rD : R2} {neg : Bool} (hD : ∀ x y H Q d ds, Dp Γ.K H x d → Dp Γ.K H y (.list ds) → SeqAt.shaped d = true → SeqAt.shaped (.list ds) = true → Q (V.bl (g (ds.any fun z => PyData.eqv z d))) H → rD x y H Q)
    (hF : ∀ b, g b = if neg then !b else b) : Prim2 Γ (rInAll Γ.K rD (rIn Γ.K neg) (rCin g) (rSin g)) (pInG g) := by
  intro M H x y sx sy s Gx Gy Q dom hp hx hy k
  unfold pInG at hp
  split at hp
  · rename_i a ds e1 e2
    split at hp
    · rename_i c
      cases hp
      rw [Bool.and_eq_true] at c
      have h2 := hy.dp e2 (SeqAt.canLay_of_shaped c.2)
      have c2 := c.2
      unfold okD at c2
      unfold D.toPy at h2 c2
      refine .inl (hD x y H Q a.toPy (D.toPys ds) (hx.dp e1 (SeqAt.canLay_of_shaped c.1)) h2 c.1 c2 ?_)
      rw [← toPys_any]
      exact k.dat (.bl _)
    · cases hp
  · rename_i a ds e1 e2
    split at hp
    · rename_i c
      cases hp
      rw [Bool.and_eq_true] at c
      obtain ⟨p, vs, rfl, hq, r⟩ := hy.tuple e2
      have hd := Sl.str_view hx e1 c.1
      obtain ⟨f1, f2⟩ := Dats.flat hd c.1 r c.2
      refine .inr (.inl ⟨p, vs, rfl, .inr hq.sq, hd.flat c.1, f1, ?_⟩)
      rw [f2, ← hF]
      exact k.dat (.bl _)
    · cases hp
  · rename_i a b e1 e2
    cases hp
    cases hx.str e1; cases hy.str e2
    unfold sIn at k
    split at k
    · rename_i c ec
      have ea : a = ⟨#[c]⟩ := by
        cases a with
        | mk cs =>
          cases cs with
          | mk l => cases ec; rfl
      subst ea
      exact .inr (.inr (.inl ⟨c, b, rfl, rfl, k.dat (.bl _)⟩))
    · exact .inr (.inr (.inr ⟨a, b, rfl, rfl, k.dat (.bl _)⟩))
  · cases hp
def pIn {Γ : Gam} : Sl Γ → Sl Γ → Option (Sl Γ) := pInG id
def pNotIn {Γ : Gam} : Sl Γ → Sl Γ → Option (Sl Γ) := pInG not
theorem pIn_ok {Γ : Gam} : Prim2 Γ (rInAll Γ.K (rInD Γ.K) (rIn Γ.K false) (rCin id) (rSin id)) (pIn (Γ := Γ)) := pInG_ok (fun x y H Q d ds h1 h2 h3 h4 q => ⟨d, ds, h1, h2, h3, h4, q⟩) fun b => rfl
theorem pNotIn_ok {Γ : Gam} : Prim2 Γ (rInAll Γ.K (rNotInD Γ.K) (rIn Γ.K true) (rCin not) (rSin not)) (pNotIn (Γ := Γ)) := pInG_ok (fun x y H Q d ds h1 h2 h3 h4 q => ⟨d, ds, h1, h2, h3, h4, q⟩) fun b => rfl
theorem op_inAll {X : Cx} (hu : X.A.units + 65 < cLine) : OpR X (compareOp .In) (rInAll X.K (rInD X.K) (rIn X.K false) (rCin id) (rSin id)) := OpR.or (op_inD hu) (OpR.or op_in_seq (OpR.or op_in_sign op_in_str))
theorem op_notInAll {X : Cx} (hu : X.A.units + 65 < cLine) : OpR X (compareOp .NotIn) (rInAll X.K (rNotInD X.K) (rIn X.K true) (rCin not) (rSin not)) := OpR.or (op_notInD hu) (OpR.or op_notIn_seq (OpR.or op_notIn_sign op_notin_str))

/-! ### is, is not: None, True, False -/
def D.isNon : D → Bool
  | .non => true
  | _ => false
theorem Dat.non_iff {Γ : Gam} {M : Addr → Prop} {H : Hp} {v : V} {d : D} (h : Dat Γ M H v d) : decide (v = .non) = d.isNon := by
  cases h <;> rfl
def pIsG {Γ : Gam} (g : Bool → Bool) (x y : Sl Γ) : Option (Sl Γ) :=
  match x, y with
  | .dat a, .dat .non => some (db (g a.isNon))
  | .dat (.bl a), .dat (.bl b) => some (db (g (decide (a = b))))
  | _, _ => none
def rIsG (g : Bool → Bool) : R2 := fun x y H Q => (y = .non ∧ Q (.bl (g (decide (x = .non)))) H) ∨ ∃ a b : Bool, x = .bl a ∧ y = .bl b ∧ Q (.bl (g (decide (a = b)))) H
theorem pIsG_ok {Γ : Gam} {g : Bool → Bool} : Prim2 Γ (rIsG g) (pIsG (Γ := Γ) g) := by
  intro M H x y sx sy s Gx Gy Q dom hp hx hy k
  unfold pIsG at hp
  split at hp
  · rename_i a
    cases hp
    cases hy.non rfl
    refine .inl ⟨rfl, ?_⟩
    rw [hx.1.non_iff]
    exact k.dat (.bl _)
  · rename_i a b
    cases hp
    cases hx.bl rfl; cases hy.bl rfl
    exact .inr ⟨a, b, rfl, rfl, k.dat (.bl _)⟩
  · cases hp
def pIs {Γ : Gam} : Sl Γ → Sl Γ → Option (Sl Γ) := pIsG id
def pIsNot {Γ : Gam} : Sl Γ → Sl Γ → Option (Sl Γ) := pIsG not
theorem op_isAll {X : Cx} : OpR X (compareOp .Is) (rIsG id) := OpR.or op_isN op_isBl
theorem op_isNotAll {X : Cx} : OpR X (compareOp .IsNot) (rIsG not) := OpR.or op_notN op_notBl

/-! ### x[i] -/
theorem Dats.atI {Γ : Gam} {M : Addr → Prop} {H : Hp} {vs : List V} {ds : List D} {i : Int} {d : D} (r : Dats Γ M H vs ds) (h : atI ds i = some d) : ∃ v, L2.atI vs i = some v ∧ Dat Γ M H v d := by
  unfold L2.atI at h ⊢
  rw [r.length]
  cases e : ixN ds.length i with
  | none => rw [e] at h; cases h
  | some j =>
    rw [e] at h
    exact r.get h
def pIx {Γ : Gam} (x y : Sl Γ) : Option (Sl Γ) :=
  match x.view, y.view with
  | some (.lst ds), some (.int i) => (atI ds i).map .dat
  | some (.tup ds), some (.int i) => (atI ds i).map .dat
  | some (.str z), some (.int i) => if z.length ≤ sizeLine then (atI z.cps.toList i).map fun c => .dat (.str ⟨#[c]⟩) else none
  | _, _ => none
theorem pIx_ok {Γ : Gam} : Prim2 Γ (rIx Γ.K) (pIx (Γ := Γ)) := by
  intro M H x y sx sy s Gx Gy Q dom hp hx hy k
  unfold pIx at hp
  split at hp
  · rename_i ds i e1 e2
    cases e : atI ds i with
    | none => rw [e] at hp; cases hp
    | some d =>
      rw [e] at hp
      cases hp
      cases hy.int e2
      obtain ⟨p, vs, rfl, hq, r⟩ := hx.list e1
      obtain ⟨v, h1, h2⟩ := r.atI e
      exact .inl ⟨p, vs, i, v, rfl, rfl, hq, h1, k.dat h2⟩
  · rename_i ds i e1 e2
    cases e : atI ds i with
    | none => rw [e] at hp; cases hp
    | some d =>
      rw [e] at hp
      cases hp
      cases hy.int e2
      obtain ⟨p, vs, rfl, hq, r⟩ := hx.tuple e1
      obtain ⟨v, h1, h2⟩ := r.atI e
      exact .inr (.inl ⟨p, vs, i, v, rfl, rfl, hq.sq, h1, k.dat h2⟩)
  · rename_i z i e1 e2
    split at hp
    · rename_i hl
      cases e : atI z.cps.toList i with
      | none => rw [e] at hp; cases hp
      | some c =>
        rw [e] at hp
        cases hp
        cases hx.str e1; cases hy.int e2
        exact .inr (.inr ⟨z, i, c, rfl, rfl, hl, e, k.dat (.str _)⟩)
    · cases hp
  · cases hp

/-! ### slices -/
def cutD (xs : List D) (lo hi : Option Int) : List D := (xs.drop (HT.sIx xs.length 0 lo)).take (HT.sIx xs.length xs.length hi - HT.sIx xs.length 0 lo)
theorem Dats.cut {Γ : Gam} {M : Addr → Prop} {H : Hp} {vs : List V} {ds : List D} (r : Dats Γ M H vs ds) (lo hi : Option Int) : Dats Γ M H (cutV vs lo hi) (cutD ds lo hi) := by
  unfold cutV cutD
  rw [r.length]
  exact (r.drop _).take _
def pSl {Γ : Gam} (x : Sl Γ) (lo hi : Option Int) : Option (Sl Γ) :=
  match x.view with
  | some (.lst ds) => some (.lst (cutD ds lo hi))
  | some (.tup ds) => some (.dat (.tup (cutD ds lo hi)))
  | some (.str z) => if z.length ≤ sizeLine then some (.dat (.str (cutS z lo hi))) else none
  | _ => none
def rSlAll (K : PySem.W.Frag) : V → Option Int → Option Int → Hp → VK → Prop := fun x lo hi H Q => rSlL K x lo hi H Q ∨ (rSlA K x lo hi H Q ∨ rSlS x lo hi H Q)
theorem sl_all {X : Cx} : SlR X (rSlAll X.K) := SlR.or sl_list (SlR.or sl_tupA sl_str)
theorem sIx_all {xs : List D} {lo hi : Option Int} (h : HT.sIx xs.length 0 lo = 0 ∧ HT.sIx xs.length xs.length hi = xs.length) : cutD xs lo hi = xs := by
  unfold cutD
  rw [h.1, h.2]
  simp
theorem pSl_ok {Γ : Gam} (lo hi : Option Int) : Prim1 Γ (fun x H Q => rSlAll Γ.K x lo hi H Q) (fun x => pSl x lo hi) := by
  intro M H x sx s Gx Q dom hp hx k
  have hp : pSl sx lo hi = some s := hp
  unfold pSl at hp
  split at hp
  · rename_i ds e1
    cases hp
    obtain ⟨p, vs, rfl, hq, r⟩ := hx.list e1
    exact .inl ⟨p, vs, rfl, hq, fun q hq => k.lst (r.cut lo hi) hq⟩
  · rename_i ds e1
    cases hp
    obtain ⟨p, vs, rfl, hq, r⟩ := hx.tuple e1
    refine .inr (.inl ⟨p, vs, rfl, hq.sq, fun h => ?_, fun _ q hq => k.tup dom (r.cut lo hi) hq⟩)
    rw [r.length] at h
    rw [sIx_all h] at k
    exact k.dat (.tup hq r)
  · rename_i z e1
    split at hp
    · rename_i hl
      cases hp
      cases hx.str e1
      exact .inr (.inr ⟨z, rfl, hl, k.dat (.str _)⟩)
    · cases hp
  · cases hp
def pRev {Γ : Gam} (x : Sl Γ) : Option (Sl Γ) :=
  match x.view with
  | some (.lst ds) => some (.lst ds.reverse)
  | _ => none
theorem pRev_ok {Γ : Gam} : Prim1 Γ (fun x H Q => ∃ a xs, x = .ref a ∧ SqL Γ.K H a xs ∧ ∀ p, H p = none → Q (.ref p) (upd H p (.lst xs.reverse))) (pRev (Γ := Γ)) := by
  intro M H x sx s Gx Q dom hp hx k
  unfold pRev at hp
  split at hp
  · rename_i ds e1
    cases hp
    obtain ⟨p, vs, rfl, hq, r⟩ := hx.list e1
    exact ⟨p, vs, rfl, hq, fun q hq => k.lst r.reverse hq⟩
  · cases hp
end G

/-! G4: expressions -/
namespace G
open PySem L2

section
variable {Γ : Gam} {X : Cx} {w : Wd} {σ : St} {env env' : Env Γ} {a b c e : Expr} {fa fb fc : AE Γ} {pos : Pos}

/-! ### names -/
def mVar {Γ : Gam} (i : Nat) : Ev Γ := fun env =>
  match env[i]? with
  | some (.dat d) => some (.dat d, env)
  | some (.scr ns) => some (.scr ns, env)
  | some (.lst ds) => some (.dat (.lst ds), env.set i (.dat (.lst ds)))
  | _ => none
theorem SR.to {M M' : Addr → Prop} {H : Hp} {v : V} {s : Sl Γ} {F F' : Addr → Prop} (h : SR Γ M H v s F) (g : Go M H M' H) (e : F' = F) : SR Γ M' H v s F' := by
  subst e
  exact h.go g fun _ _ _ q => q
/-- slot i lets go of what it owns: nobody will change it any more -/
theorem ER.freeze (E : ER Γ w σ env) {i : Nat} {ds : List D} (h : env[i]? = some (.lst ds)) :
    ∃ w', w'.H = w.H ∧ ER Γ w' σ (env.set i (.dat (.lst ds))) ∧ Step w w' ∧ ∃ v, σ[i]? = some (some v) ∧ Dat Γ w'.M w'.H v (.lst ds) := by
  obtain ⟨v, ev, p, vs, rfl, hp, r, n⟩ := E.at (i := i) (s := .lst ds) (by rw [h]; rfl)
  have il : i < env.length := (List.getElem?_eq_some_iff.mp h).1
  have g : Go w.M w.H (fun a => w.M a ∧ ¬ w.F i a) w.H := ⟨fun _ _ _ q => q, fun _ n _ z => n z.1⟩
  have dv : Dat Γ (fun a => w.M a ∧ ¬ w.F i a) w.H (.ref p) (.lst ds) := .lst (fun z => z.2 ((n p).mpr rfl)) hp (r.go g)
  refine ⟨⟨fun a => w.M a ∧ ¬ w.F i a, fun j a => w.F j a ∧ j ≠ i, w.H⟩, rfl, ⟨?_, fun j s hj => ?_, fun j a f => ?_, fun j k a f f' => E.dis j k a f.1 f'.1, fun a m => E.dom a m.1, fun j hj a f => ?_⟩, ⟨fun _ _ _ q => q, fun a h m => ⟨m, h i⟩, fun a m => .inl m.1, fun j a f => .inl ⟨j, f.1⟩, fun _ q => q⟩, _, ev, dv⟩
  · rw [List.length_set]; exact E.len
  · by_cases hji : j = i
    · subst hji
      rw [List.getElem?_set_self il] at hj
      cases hj
      exact .inr ⟨_, ev, dv, fun a z => z.2 rfl⟩
    · rw [List.getElem?_set_ne (Ne.symm hji)] at hj
      have ef : (fun a => w.F j a ∧ j ≠ i) = w.F j := by funext a; exact propext ⟨fun z => z.1, fun z => ⟨z, hji⟩⟩
      rcases E.slot j s hj with ⟨z1, z2⟩ | ⟨u, eu, ru⟩
      · exact .inl ⟨z1, fun a f => z2 a f.1⟩
      · exact .inr ⟨u, eu, ru.to g ef⟩
  · exact ⟨E.sub j a f.1, fun z => f.2 (E.dis j i a f.1 z)⟩
  · rw [List.length_set] at hj
    exact E.out j hj a f.1
theorem sd_var (i : Nat) {x : Str} (hN : X.N[i]? = some x := by rfl) (hv : Vis X.env.scope x := by first | exact Or.inl rfl | exact Or.inr (Or.inl rfl) | exact Or.inr (Or.inr rfl)) (hd : (x == ("__debug__" : Str)) = false := by decide) (hcd : (x == ("__classdict__" : Str)) = false := by decide) :
    SdE Γ X (.Name x pos) (mVar i) := by
  intro hK σ env r env' w Q he E k
  refine wE.of (pe_var hN hv hd hcd) ?_
  unfold mVar at he
  split at he
  · rename_i d g
    cases he
    obtain ⟨v, ev, rv⟩ := E.at (i := i) (s := .dat d) (by rw [g]; rfl)
    exact ⟨v, ev, k v w (fun _ => False) E ⟨⟨rv.1, fun _ z => z⟩, fun _ z => z.elim, fun _ _ z => z.elim⟩ (Step.refl w) fun _ z => z.elim⟩
  · rename_i d g
    cases he
    obtain ⟨v, ev, rv⟩ := E.at (i := i) (s := .scr d) (by rw [g]; rfl)
    exact ⟨v, ev, k v w (fun _ => False) E ⟨⟨rv.1, fun _ z => z⟩, fun _ z => z.elim, fun _ _ z => z.elim⟩ (Step.refl w) fun _ z => z.elim⟩
  · rename_i ds g
    cases he
    obtain ⟨w', eH, E', st, v, ev, dv⟩ := E.freeze g
    refine ⟨v, ev, ?_⟩
    rw [← eH]
    exact k v w' (fun _ => False) E' ⟨⟨dv, fun _ z => z⟩, fun _ z => z.elim, fun _ _ z => z.elim⟩ st fun _ z => z.elim
  · cases he
theorem sda_var (i : Nat) {x : Str} (hN : X.N[i]? = some x := by rfl) (hv : Vis X.env.scope x := by first | exact Or.inl rfl | exact Or.inr (Or.inl rfl) | exact Or.inr (Or.inr rfl)) (hd : (x == ("__debug__" : Str)) = false := by decide) (hcd : (x == ("__classdict__" : Str)) = false := by decide) :
    SdA Γ X (.Name x pos) (.brw i) := fun σ H Q v e q => wE.of (pe_var hN hv hd hcd) ⟨v, e, q⟩
theorem sda_ex {f : Ev Γ} (h : SdE Γ X e f) : SdA Γ X e (.ex f) := h
/-- a fresh list is let go of -/
def mFrz {Γ : Gam} (f : Ev Γ) : Ev Γ := fun env =>
  match f env with
  | some (.dat d, env') => some (.dat d, env')
  | some (.lst ds, env') => some (.dat (.lst ds), env')
  | _ => none
theorem sd_frz {f : Ev Γ} (h : SdE Γ X e f) : SdE Γ X e (mFrz f) := by
  intro hK σ env r env' w Q he E k
  unfold mFrz at he
  split at he
  · rename_i d env1 g
    cases he
    exact h hK σ env _ _ w Q g E k
  · rename_i ds env1 g
    cases he
    refine h hK σ env _ _ w Q g E fun v w1 Fr E1 T1 p1 f1 => ?_
    obtain ⟨p, vs, rfl, hp, r, n⟩ := T1.rep
    have go : Go w1.M w1.H (fun a => w1.M a ∧ ¬ Fr a) w1.H := ⟨fun _ _ _ q => q, fun _ n _ z => n z.1⟩
    have st : Step w ⟨fun a => w1.M a ∧ ¬ Fr a, w1.F, w1.H⟩ := ⟨p1.keep, fun a hF m => ⟨p1.mu a hF m, fun z => (f1 a z).elim (fun ⟨i, q⟩ => hF i q) fun q => E.dom a m q⟩, fun a m => p1.src a m.1, p1.own, p1.live⟩
    have E2 : ER Γ ⟨fun a => w1.M a ∧ ¬ Fr a, w1.F, w1.H⟩ σ env' := by
      refine ⟨E1.len, fun j s hj => ?_, fun j a f => ⟨E1.sub j a f, fun z => T1.off a j z f⟩, E1.dis, fun a m => E1.dom a m.1, E1.out⟩
      rcases E1.slot j s hj with z | ⟨u, eu, ru⟩
      · exact .inl z
      · exact .inr ⟨u, eu, ru.to go rfl⟩
    exact k (.ref p) ⟨fun a => w1.M a ∧ ¬ Fr a, w1.F, w1.H⟩ (fun _ => False) E2 ⟨⟨.lst (fun z => z.2 ((n p).mpr rfl)) hp (r.go go), fun _ z => z⟩, fun _ z => z.elim, fun _ _ z => z.elim⟩ st fun _ z => z.elim
  · cases he

/-! ### constants -/
def mC {Γ : Gam} (d : D) : Ev Γ := fun env => some (.dat d, env)
theorem sd_c {v : V} {d : D} (h : PE X e (tC v)) (hd : ∀ M H, Dat Γ M H v d) : SdE Γ X e (mC d) := by
  intro hK σ env r env' w Q he E k
  cases he
  exact wE.of h (k v w (fun _ => False) E ⟨⟨hd _ _, fun _ z => z⟩, fun _ z => z.elim, fun _ _ z => z.elim⟩ (Step.refl w) fun _ z => z.elim)
theorem sd_int {i j} : SdE Γ X (.Constant (.int i) j pos) (mC (.int i)) := sd_c pe_int fun _ _ => .int _
theorem sd_bl {b j} : SdE Γ X (.Constant (.bool b) j pos) (mC (.bl b)) := sd_c pe_bl fun _ _ => .bl _
theorem sd_non {j} : SdE Γ X (.Constant .none j pos) (mC .non) := sd_c pe_non fun _ _ => .non
theorem sd_str {x j} : SdE Γ X (.Constant (.str x) j pos) (mC (.str x)) := sd_c pe_str fun _ _ => .str _
/-- a module's constant -/
theorem sd_gint {x : Str} {i : Int} {t : Tok} (hg : Gl X x) (hm : X.mg x = some (.int i t)) (hd : (x == ("__debug__" : Str)) = false := by decide) : SdE Γ X (.Name x pos) (mC (.int i)) := sd_c (pe_glob (v := .int i) hg hm ⟨t, rfl⟩ hd) fun _ _ => .int _
theorem sd_gstr {x z : Str} {t : Tok} (hg : Gl X x) (hm : X.mg x = some (.str z t)) (hd : (x == ("__debug__" : Str)) = false := by decide) : SdE Γ X (.Name x pos) (mC (.str z)) := sd_c (pe_glob (v := .str z) hg hm ⟨t, rfl⟩ hd) fun _ _ => .str _

/-! ### operators -/
theorem sd_bin {op : Operator} {r : R2} {p : Sl Γ → Sl Γ → Option (Sl Γ)} (ho : Gd Γ X → OpR X (binaryOp op) r) (hp : Prim2 Γ r p) (ha : SdA Γ X a fa) (hb : SdA Γ X b fb) : SdE Γ X (.BinOp a op b pos) (m2 p fa fb) :=
  fun hK σ env r env' w Q he E k => wE.of (pe_op (ho hK) pe_wE pe_wE) (run2 hp ha hb hK he E k)
theorem sd_add (ha : SdA Γ X a fa) (hb : SdA Γ X b fb) : SdE Γ X (.BinOp a .Add b pos) (m2 pAdd fa fb) := sd_bin (fun g => by rw [g.k]; exact op_addAll) pAdd_ok ha hb
theorem sd_sub (ha : SdA Γ X a fa) (hb : SdA Γ X b fb) : SdE Γ X (.BinOp a .Sub b pos) (m2 pSub fa fb) := sd_bin (fun g => op_sub) pSub_ok ha hb
theorem sd_mul (ha : SdA Γ X a fa) (hb : SdA Γ X b fb) : SdE Γ X (.BinOp a .Mult b pos) (m2 pMul fa fb) := sd_bin (fun g => op_mul) pMul_ok ha hb
theorem sd_div (ha : SdA Γ X a fa) (hb : SdA Γ X b fb) : SdE Γ X (.BinOp a .FloorDiv b pos) (m2 pDiv fa fb) := sd_bin (fun g => op_fdivW) pDiv_ok ha hb
theorem sd_mod (ha : SdA Γ X a fa) (hb : SdA Γ X b fb) : SdE Γ X (.BinOp a .Mod b pos) (m2 pMod fa fb) := sd_bin (fun g => op_mod) pMod_ok ha hb
theorem sd_pow (ha : SdA Γ X a fa) (hb : SdA Γ X b fb) : SdE Γ X (.BinOp a .Pow b pos) (m2 pPow fa fb) := sd_bin (fun g => op_pow) pPow_ok ha hb
theorem sd_neg (ha : SdA Γ X a fa) : SdE Γ X (.UnaryOp .USub a pos) (m1 pNeg fa) := fun hK σ env r env' w Q he E k => wE.of (pe_un un_neg pe_wE) (run1 pNeg_ok ha hK he E k)
theorem sd_cmpG {op : CmpOp} {r : R2} {p : Sl Γ → Sl Γ → Option (Sl Γ)} (ho : Gd Γ X → OpR X (compareOp op) r) (hp : Prim2 Γ r p) (hm : behindInMarks op b = false) (ha : SdA Γ X a fa) (hb : SdA Γ X b fb) : SdE Γ X (.Compare a [op] [b] pos) (m2 p fa fb) :=
  fun hK σ env r env' w Q he E k => wE.of (pe_cmpR (ho hK) pe_wE pe_wE hm) (run2 hp ha hb hK he E k)
/-- a value as a test -/
def toT {Γ : Gam} (f : Ev Γ) : Et Γ := fun env =>
  match f env with
  | some (.dat (.bl b), env') => some (b, env')
  | _ => none
theorem toT_some {f : Ev Γ} {b : Bool} (h : toT f env = some (b, env')) : f env = some (.dat (.bl b), env') := by
  unfold toT at h
  split at h
  · rename_i b1 env1 g
    cases h
    exact g
  · cases h
theorem TR.bl {w : Wd} {v : V} {b : Bool} {Fr : Addr → Prop} (t : TR Γ w v (.dat (.bl b)) Fr) : v = .bl b := t.rep.bl rfl
theorem sdt_cmpG {op : CmpOp} {r : R2} {p : Sl Γ → Sl Γ → Option (Sl Γ)} (ho : Gd Γ X → OpR X (compareOp op) r) (hp : Prim2 Γ r p) (hm : behindInMarks op b = false) (ha : SdA Γ X a fa) (hb : SdA Γ X b fb) : SdT Γ X (.Compare a [op] [b] pos) (toT (m2 p fa fb)) :=
  fun hK σ env r env' w Q he E k => wT.of (pt_cmpR (ho hK) pe_wE pe_wE hm) (run2 hp ha hb hK (toT_some he) E fun v w' Fr E' T p' f => ⟨r, T.bl, k w' E' p'⟩)
/-- the comparisons: operator, its rule, its reading -/
structure Cmp (Γ : Gam) (X : Cx) (op : CmpOp) (p : Sl Γ → Sl Γ → Option (Sl Γ)) : Prop where
  ex : ∃ r, (Gd Γ X → OpR X (compareOp op) r) ∧ Prim2 Γ r p
theorem c_eq : Cmp Γ X .Eq pEq := ⟨_, fun g => by rw [g.k]; exact op_eqD (Nat.lt_trans (Nat.lt_succ_self _) g.un), pEq_ok⟩
theorem c_ne : Cmp Γ X .NotEq pNe := ⟨_, fun g => by rw [g.k]; exact op_neD (Nat.lt_trans (Nat.lt_succ_self _) g.un), pNe_ok⟩
theorem c_lt : Cmp Γ X .Lt pLt := ⟨_, fun _ => op_ltO, pOrd_ok⟩
theorem c_le : Cmp Γ X .LtE pLe := ⟨_, fun _ => op_leO, pOrd_ok⟩
theorem c_gt : Cmp Γ X .Gt pGt := ⟨_, fun _ => op_gtO, pOrd_ok⟩
theorem c_ge : Cmp Γ X .GtE pGe := ⟨_, fun _ => op_geO, pOrd_ok⟩
theorem c_in : Cmp Γ X .In pIn := ⟨_, fun g => by rw [g.k]; exact op_inAll g.un, pIn_ok⟩
theorem c_ni : Cmp Γ X .NotIn pNotIn := ⟨_, fun g => by rw [g.k]; exact op_notInAll g.un, pNotIn_ok⟩
theorem c_is : Cmp Γ X .Is pIs := ⟨_, fun _ => op_isAll, pIsG_ok⟩
theorem c_isn : Cmp Γ X .IsNot pIsNot := ⟨_, fun _ => op_isNotAll, pIsG_ok⟩
theorem sd_cmp {op : CmpOp} {p : Sl Γ → Sl Γ → Option (Sl Γ)} (h : Cmp Γ X op p) (ha : SdA Γ X a fa) (hb : SdA Γ X b fb) (hm : behindInMarks op b = false := by first | exact nobehind _ (by decide) (by decide) | rfl) : SdE Γ X (.Compare a [op] [b] pos) (m2 p fa fb) := by
  obtain ⟨r, h1, h2⟩ := h
  exact sd_cmpG h1 h2 hm ha hb
theorem sdt_cmp {op : CmpOp} {p : Sl Γ → Sl Γ → Option (Sl Γ)} (h : Cmp Γ X op p) (ha : SdA Γ X a fa) (hb : SdA Γ X b fb) (hm : behindInMarks op b = false := by first | exact nobehind _ (by decide) (by decide) | rfl) : SdT Γ X (.Compare a [op] [b] pos) (toT (m2 p fa fb)) := by
  obtain ⟨r, h1, h2⟩ := h
  exact sdt_cmpG h1 h2 hm ha hb
theorem sd_ix (ha : SdA Γ X a fa) (hb : SdA Γ X b fb) (hs : PlainIx b := by exact fun _ _ => rfl) : SdE Γ X (.Subscript a b pos) (m2 pIx fa fb) :=
  fun hK σ env r env' w Q he E k => wE.of (pe_ix (by rw [hK.k]; exact ix_seq) pe_wE pe_wE hs) (run2 pIx_ok ha hb hK he E k)
theorem sd_rev {k : Nat} {p1 p2 p3 : Pos} (ha : SdA Γ X a fa) : SdE Γ X (.Subscript a (.Slice none none (some (.UnaryOp .USub (.Constant (.int 1) k p1) p2)) p3) pos) (m1 pRev fa) :=
  fun hK σ env r env' w Q he E k => wE.of (pe_revL pe_wE) (by unfold tRevL; rw [← hK.k]; exact run1 pRev_ok ha hK he E k)
end
end G

/-! G5: truth, and, or, not, if; displays; slices; built-ins -/
namespace G
open PySem L2

def truth {Γ : Gam} (s : Sl Γ) : Option Bool :=
  match s.view with
  | some .non => some false
  | some (.bl b) => some b
  | some (.int i) => some (i != 0)
  | some (.str z) => if z.length ≤ sizeLine then some ((z.length : Int) != 0) else none
  | some (.lst ds) => some (!ds.isEmpty)
  | some (.tup ds) => some (!ds.isEmpty)
  | _ => none
theorem Dats.empty {Γ : Gam} {M : Addr → Prop} {H : Hp} {vs : List V} {ds : List D} (r : Dats Γ M H vs ds) : vs.isEmpty = ds.isEmpty := by cases r <;> rfl
theorem truth_ok {Γ : Gam} {M : Addr → Prop} {H : Hp} {v : V} {s : Sl Γ} {G' : Addr → Prop} {b : Bool} (h : SR Γ M H v s G') (e : truth s = some b) : TruV Γ.K v H b := by
  unfold truth at e
  split at e
  · rename_i g; cases e; cases h.non g; rfl
  · rename_i g; cases e; cases h.bl g; rfl
  · rename_i g; cases e; cases h.int g; rfl
  · rename_i z g
    split at e
    · rename_i hl; cases e; cases h.str g; exact ⟨hl, rfl⟩
    · cases e
  · rename_i ds g
    cases e
    obtain ⟨p, vs, rfl, hq, r⟩ := h.list g
    exact .inl ⟨vs, hq, by rw [r.empty]⟩
  · rename_i ds g
    cases e
    obtain ⟨p, vs, rfl, hq, r⟩ := h.tuple g
    exact .inr (.inl ⟨vs, hq.sq, by rw [r.empty]⟩)
  · cases e
/-- a value's truth -/
def mT {Γ : Gam} (a : AE Γ) : Et Γ := fun env =>
  match evA a env with
  | none => none
  | some (x, env1) => match peek x env1 with
    | none => none
    | some s => (truth s).map fun b => (b, env1)
def mAndV {Γ : Gam} (f g : Ev Γ) : Ev Γ := fun env =>
  match f env with
  | none => none
  | some (s, env1) => match truth s with
    | some true => g env1
    | some false => some (s, env1)
    | none => none
def mOrV {Γ : Gam} (f g : Ev Γ) : Ev Γ := fun env =>
  match f env with
  | none => none
  | some (s, env1) => match truth s with
    | some true => some (s, env1)
    | some false => g env1
    | none => none
def mNotV {Γ : Gam} (f : Et Γ) : Ev Γ := fun env => (f env).map fun p => (.dat (.bl (!p.1)), p.2)
def mNotT {Γ : Gam} (f : Et Γ) : Et Γ := fun env => (f env).map fun p => (!p.1, p.2)
def mAndT {Γ : Gam} (f g : Et Γ) : Et Γ := fun env =>
  match f env with
  | none => none
  | some (true, env1) => g env1
  | some (false, env1) => some (false, env1)
def mOrT {Γ : Gam} (f g : Et Γ) : Et Γ := fun env =>
  match f env with
  | none => none
  | some (true, env1) => some (true, env1)
  | some (false, env1) => g env1
def mIf {Γ : Gam} (c : Et Γ) (f g : Ev Γ) : Ev Γ := fun env =>
  match c env with
  | none => none
  | some (true, env1) => f env1
  | some (false, env1) => g env1
section
variable {Γ : Gam} {X : Cx} {a b c e : Expr} {rest : List Expr} {fa fb fc : AE Γ} {f g : Ev Γ} {tf tg tc : Et Γ} {pos : Pos}
def SdW (Γ : Gam) (X : Cx) (e : Expr) (f : Et Γ) : Prop := Gd Γ X → ∀ (σ : St) (env : Env Γ) (b : Bool) (env' : Env Γ) (w : Wd) (Q : Bool → Hp → Prop), f env = some (b, env') → ER Γ w σ env →
  (∀ w', ER Γ w' σ env' → Step w w' → Q b w'.H) → wW X e σ w.H Q
theorem SdW.t (h : SdW Γ X e tf) : SdT Γ X e tf := fun hK σ env b env' w Q he E k => wT.of (PW.pt pw_wW) (h hK σ env b env' w Q he E k)
theorem sdt_tru (ha : SdA Γ X a fa) (hs : ∀ whole, isTrue a X.env whole = (do let v ← whole; standAt a.pos; holding [v] (truthy v)) := by intro _; rfl) : SdT Γ X a (mT fa) := by
  intro hK σ env b env' w Q he E k
  refine wT.of (pt_truth pe_wE hs) ?_
  unfold mT at he
  cases g1 : evA fa env with
  | none => simp only [g1] at he; cases he
  | some q =>
    obtain ⟨x, env1⟩ := q
    simp only [g1] at he
    cases g2 : peek x env1 with
    | none => simp only [g2] at he; cases he
    | some s =>
      simp only [g2] at he
      cases g3 : truth s with
      | none => simp only [g3] at he; cases he
      | some b1 =>
        simp only [g3, Option.map_some] at he
        cases he
        refine sda_run ha hK g1 E fun v w1 Fr E1 A1 p1 f1 => ?_
        obtain ⟨G1, r1⟩ := A1.peek E1 g2
        exact ⟨b, by rw [← hK.k]; exact truth_ok r1 g3, k w1 E1 p1⟩
theorem sdt_not (h : SdT Γ X a tf) : SdT Γ X (.UnaryOp .Not a pos) (mNotT tf) := by
  intro hK σ env b env' w Q he E k
  refine wT.of (pt_not pt_wT) ?_
  unfold mNotT at he
  cases g1 : tf env with
  | none => rw [g1] at he; cases he
  | some q =>
    rw [g1] at he
    cases he
    exact h hK σ env _ _ w _ g1 E k
theorem sd_not (h : SdT Γ X a tf) (hp : PE X (.UnaryOp .Not a pos) (fun σ H Q => wT X a σ H fun c H1 => Q (.bl (!c)) H1)) : SdE Γ X (.UnaryOp .Not a pos) (mNotV tf) := by
  intro hK σ env b env' w Q he E k
  refine wE.of hp ?_
  unfold mNotV at he
  cases g1 : tf env with
  | none => rw [g1] at he; cases he
  | some q =>
    rw [g1] at he
    cases he
    refine h hK σ env _ _ w _ g1 E fun w1 E1 p1 => ?_
    exact k _ w1 (fun _ => False) E1 ⟨⟨.bl _, fun _ z => z⟩, fun _ z => z.elim, fun _ _ z => z.elim⟩ p1 fun _ z => z.elim
/-- not e as a value -/
def mNotE {Γ : Gam} (f : Ev Γ) : Ev Γ := fun env =>
  match f env with
  | none => none
  | some (s, env1) => (truth s).map fun b => (.dat (.bl (!b)), env1)
theorem sd_notE (h : SdE Γ X a f) : SdE Γ X (.UnaryOp .Not a pos) (mNotE f) := by
  intro hK σ env b env' w Q he E k
  refine wE.of (pe_notT pe_wE) ?_
  unfold mNotE at he
  cases g1 : f env with
  | none => simp only [g1] at he; cases he
  | some q =>
    obtain ⟨s, env1⟩ := q
    simp only [g1] at he
    cases g2 : truth s with
    | none => simp only [g2] at he; cases he
    | some t =>
      simp only [g2, Option.map_some] at he
      cases he
      refine h hK σ env _ _ w _ g1 E fun v w1 Fr E1 T1 p1 f1 => ?_
      refine ⟨t, by rw [← hK.k]; exact truth_ok T1.rep g2, ?_⟩
      exact k _ w1 (fun _ => False) E1 ⟨⟨.bl _, fun _ z => z⟩, fun _ z => z.elim, fun _ _ z => z.elim⟩ p1 fun _ z => z.elim
theorem sdw_and1 (h : SdT Γ X a tf) : SdW Γ X (.BoolOp .And [a] pos) tf := fun hK σ env b env' w Q he E k => wW.of (pw_and1 pt_wT) (h hK σ env b env' w Q he E k)
theorem sdw_or1 (h : SdT Γ X a tf) : SdW Γ X (.BoolOp .Or [a] pos) tf := fun hK σ env b env' w Q he E k => wW.of (pw_or1 pt_wT) (h hK σ env b env' w Q he E k)
theorem sdw_and (h : SdT Γ X a tf) (h' : SdW Γ X (.BoolOp .And (b :: rest) pos) tg) : SdW Γ X (.BoolOp .And (a :: b :: rest) pos) (mAndT tf tg) := by
  intro hK σ env r env' w Q he E k
  refine wW.of (pw_and pt_wT pw_wW) ?_
  unfold mAndT at he
  split at he
  · cases he
  · rename_i env1 g1
    refine h hK σ env _ _ w _ g1 E fun w1 E1 p1 => ?_
    rw [if_pos rfl]
    exact h' hK σ env1 r env' w1 Q he E1 fun w2 E2 p2 => k w2 E2 (p1.trans p2 E.dom)
  · rename_i env1 g1
    cases he
    refine h hK σ env _ _ w _ g1 E fun w1 E1 p1 => ?_
    rw [if_neg Bool.false_ne_true]
    exact k w1 E1 p1
theorem sdw_or (h : SdT Γ X a tf) (h' : SdW Γ X (.BoolOp .Or (b :: rest) pos) tg) : SdW Γ X (.BoolOp .Or (a :: b :: rest) pos) (mOrT tf tg) := by
  intro hK σ env r env' w Q he E k
  refine wW.of (pw_or pt_wT pw_wW) ?_
  unfold mOrT at he
  split at he
  · cases he
  · rename_i env1 g1
    cases he
    refine h hK σ env _ _ w _ g1 E fun w1 E1 p1 => ?_
    rw [if_pos rfl]
    exact k w1 E1 p1
  · rename_i env1 g1
    refine h hK σ env _ _ w _ g1 E fun w1 E1 p1 => ?_
    rw [if_neg Bool.false_ne_true]
    exact h' hK σ env1 r env' w1 Q he E1 fun w2 E2 p2 => k w2 E2 (p1.trans p2 E.dom)
theorem sd_one {op} (h : SdE Γ X a f) : SdE Γ X (.BoolOp op [a] pos) f := fun hK σ env r env' w Q he E k => wE.of (pe_one pe_wE) (h hK σ env r env' w Q he E k)
theorem sd_and (h : SdE Γ X a f) (h' : SdE Γ X (.BoolOp .And (b :: rest) pos) g) : SdE Γ X (.BoolOp .And (a :: b :: rest) pos) (mAndV f g) := by
  intro hK σ env r env' w Q he E k
  refine wE.of (pe_andT pe_wE pe_wE) ?_
  unfold mAndV at he
  cases g1 : f env with
  | none => simp only [g1] at he; cases he
  | some q =>
    obtain ⟨s, env1⟩ := q
    simp only [g1] at he
    refine h hK σ env _ _ w _ g1 E fun v w1 Fr E1 T1 p1 f1 => ?_
    split at he
    · rename_i g2
      refine ⟨true, by rw [← hK.k]; exact truth_ok T1.rep g2, ?_⟩
      rw [if_pos rfl]
      exact h' hK σ env1 r env' w1 Q he E1 fun v2 w2 Fr2 E2 T2 p2 f2 => k v2 w2 Fr2 E2 T2 (p1.trans p2 E.dom) (f2.back p1)
    · rename_i g2
      cases he
      refine ⟨false, by rw [← hK.k]; exact truth_ok T1.rep g2, ?_⟩
      rw [if_neg Bool.false_ne_true]
      exact k v w1 Fr E1 T1 p1 f1
    · cases he
theorem sd_or (h : SdE Γ X a f) (h' : SdE Γ X (.BoolOp .Or (b :: rest) pos) g) : SdE Γ X (.BoolOp .Or (a :: b :: rest) pos) (mOrV f g) := by
  intro hK σ env r env' w Q he E k
  refine wE.of (pe_orT pe_wE pe_wE) ?_
  unfold mOrV at he
  cases g1 : f env with
  | none => simp only [g1] at he; cases he
  | some q =>
    obtain ⟨s, env1⟩ := q
    simp only [g1] at he
    refine h hK σ env _ _ w _ g1 E fun v w1 Fr E1 T1 p1 f1 => ?_
    split at he
    · rename_i g2
      cases he
      refine ⟨true, by rw [← hK.k]; exact truth_ok T1.rep g2, ?_⟩
      rw [if_pos rfl]
      exact k v w1 Fr E1 T1 p1 f1
    · rename_i g2
      refine ⟨false, by rw [← hK.k]; exact truth_ok T1.rep g2, ?_⟩
      rw [if_neg Bool.false_ne_true]
      exact h' hK σ env1 r env' w1 Q he E1 fun v2 w2 Fr2 E2 T2 p2 f2 => k v2 w2 Fr2 E2 T2 (p1.trans p2 E.dom) (f2.back p1)
    · cases he
theorem sd_if (hc : SdT Γ X c tc) (ha : SdE Γ X a f) (hb : SdE Γ X b g) : SdE Γ X (.IfExp c a b pos) (mIf tc f g) := by
  intro hK σ env r env' w Q he E k
  refine wE.of (pe_ifExp pt_wT pe_wE pe_wE) ?_
  unfold mIf at he
  split at he
  · cases he
  · rename_i env1 g1
    refine hc hK σ env _ _ w _ g1 E fun w1 E1 p1 => ?_
    rw [if_pos rfl]
    exact ha hK σ env1 r env' w1 Q he E1 fun v2 w2 Fr2 E2 T2 p2 f2 => k v2 w2 Fr2 E2 T2 (p1.trans p2 E.dom) (f2.back p1)
  · rename_i env1 g1
    refine hc hK σ env _ _ w _ g1 E fun w1 E1 p1 => ?_
    rw [if_neg Bool.false_ne_true]
    exact hb hK σ env1 r env' w1 Q he E1 fun v2 w2 Fr2 E2 T2 p2 f2 => k v2 w2 Fr2 E2 T2 (p1.trans p2 E.dom) (f2.back p1)
/-- a op b op' c: b data -/
def mChain {Γ : Gam} (p p' : Sl Γ → Sl Γ → Option (Sl Γ)) (fa : AE Γ) (fb : Ev Γ) (fc : AE Γ) : Ev Γ := fun env =>
  match evA fa env with
  | none => none
  | some (x, env1) => match fb env1 with
    | some (.dat d, env2) => match peek x env2 with
      | none => none
      | some sx => match p sx (.dat d) with
        | some (.dat (.bl true)) => match evA fc env2 with
          | none => none
          | some (y, env3) => match peek y env3 with
            | none => none
            | some sy => (p' (.dat d) sy).map fun s => (s, env3)
        | some (.dat (.bl false)) => some (.dat (.bl false), env2)
        | _ => none
    | _ => none
theorem chain_run {r r' : R2} {p p' : Sl Γ → Sl Γ → Option (Sl Γ)} {fb : Ev Γ} {σ : St} {env env' : Env Γ} {w : Wd} {s : Sl Γ} {Q : VK} (hp : Prim2 Γ r p) (hp' : Prim2 Γ r' p') (ha : SdA Γ X a fa) (hb : SdE Γ X b fb) (hc : SdA Γ X c fc) (hK : Gd Γ X) (he : mChain p p' fa fb fc env = some (s, env')) (E : ER Γ w σ env)
    (k : ∀ v w' Fr, ER Γ w' σ env' → TR Γ w' v s Fr → Step w w' → Fresh w Fr → Q v w'.H) : tChain r r' (wE X a) (wE X b) (wE X c) σ w.H Q := by
  unfold mChain at he
  cases g1 : evA fa env with
  | none => simp only [g1] at he; cases he
  | some q =>
    obtain ⟨x, env1⟩ := q
    simp only [g1] at he
    cases g2 : fb env1 with
    | none => simp only [g2] at he; cases he
    | some q =>
      obtain ⟨sd, env2⟩ := q
      cases sd with
      | dat d =>
        simp only [g2] at he
        cases g3 : peek x env2 with
        | none => simp only [g3] at he; cases he
        | some sx =>
          simp only [g3] at he
          refine sda_run ha hK g1 E fun v w1 Fr E1 A1 p1 f1 => ?_
          refine hb hK σ env1 _ _ w1 _ g2 E1 fun u w2 Fr2 E2 T2 p2 f2 => ?_
          have p12 := p1.trans p2 E.dom
          obtain ⟨G1, r1⟩ := (A1.step E1 p2).peek E2 g3
          split at he
          · rename_i g4
            refine hp w2.M w2.H v u sx _ _ G1 Fr2 _ E2.dom g4 r1 T2.rep (res_of E2 fun z w3 Fr3 E3 T3 p3 f3 => ⟨true, T3.bl, ?_⟩)
            rw [if_pos rfl]
            cases g5 : evA fc env2 with
            | none => simp only [g5] at he; cases he
            | some q =>
              obtain ⟨y, env3⟩ := q
              simp only [g5] at he
              cases g6 : peek y env3 with
              | none => simp only [g6] at he; cases he
              | some sy =>
                simp only [g6] at he
                cases g7 : p' (.dat d) sy with
                | none => rw [g7] at he; cases he
                | some s1 =>
                  rw [g7] at he
                  cases he
                  refine sda_run hc hK g5 E3 fun y4 w4 Fr4 E4 A4 p4 f4 => ?_
                  obtain ⟨G4, r4⟩ := A4.peek E4 g6
                  have p13 := p12.trans p3 E.dom
                  have p14 := p13.trans p4 E.dom
                  have T2' := TR.step E3 (TR.step E2 T2 p3) p4
                  exact hp' w4.M w4.H u y4 _ sy s Fr2 G4 Q E4.dom g7 T2'.rep r4 (res_of E4 fun v5 w5 Fr5 E5 T5 p5 f5 => k v5 w5 Fr5 E5 T5 (p14.trans p5 E.dom) (f5.back p14))
          · rename_i g4
            cases he
            refine hp w2.M w2.H v u sx _ _ G1 Fr2 _ E2.dom g4 r1 T2.rep (res_of E2 fun z w3 Fr3 E3 T3 p3 f3 => ⟨false, T3.bl, ?_⟩)
            rw [if_neg Bool.false_ne_true]
            exact k _ w3 (fun _ => False) E3 ⟨⟨.bl _, fun _ z => z⟩, fun _ z => z.elim, fun _ _ z => z.elim⟩ (p12.trans p3 E.dom) fun _ z => z.elim
          · cases he
      | _ => simp only [g2] at he; cases he
theorem sd_chain {op op' : CmpOp} {p p' : Sl Γ → Sl Γ → Option (Sl Γ)} {fb : Ev Γ} (h : Cmp Γ X op p) (h' : Cmp Γ X op' p') (ha : SdA Γ X a fa) (hb : SdE Γ X b fb) (hc : SdA Γ X c fc) (hm : lastMarks [op, op'] [b, c] = false := by with_unfolding_all rfl) :
    SdE Γ X (.Compare a [op, op'] [b, c] pos) (mChain p p' fa fb fc) := by
  obtain ⟨r, h1, h2⟩ := h
  obtain ⟨r', h1', h2'⟩ := h'
  exact fun hK σ env s env' w Q he E k => wE.of (pe_chain (h1 hK) (h1' hK) pe_wE pe_wE pe_wE hm) (chain_run h2 h2' ha hb hc hK he E k)
theorem sdt_chain {op op' : CmpOp} {p p' : Sl Γ → Sl Γ → Option (Sl Γ)} {fb : Ev Γ} (h : Cmp Γ X op p) (h' : Cmp Γ X op' p') (ha : SdA Γ X a fa) (hb : SdE Γ X b fb) (hc : SdA Γ X c fc) (hm : lastMarks [op, op'] [b, c] = false := by with_unfolding_all rfl) :
    SdT Γ X (.Compare a [op, op'] [b, c] pos) (toT (mChain p p' fa fb fc)) := by
  obtain ⟨r, h1, h2⟩ := h
  obtain ⟨r', h1', h2'⟩ := h'
  exact fun hK σ env s env' w Q he E k => wT.of (pt_chain (h1 hK) (h1' hK) pe_wE pe_wE pe_wE hm) (chain_run h2 h2' ha hb hc hK (toT_some he) E fun v w' Fr E' T p' f => ⟨s, T.bl, k w' E' p'⟩)
end
end G

/-! G6: displays, slices, calls of built-ins, methods of texts -/
namespace G
open PySem L2

def allDat {Γ : Gam} : List (Sl Γ) → Option (List D)
  | [] => some []
  | .dat d :: r => (allDat r).map (d :: ·)
  | _ => none
theorem allDat_ok {Γ : Gam} {M : Addr → Prop} {H : Hp} : ∀ {vs : List V} {ss : List (Sl Γ)} {ds : List D}, SRs Γ M H vs ss → allDat ss = some ds → Dats Γ M H vs ds
  | _, _, _, .nil, e => by cases e; exact .nil
  | _, _, _, .cons (s := s) (ss := ss) h r, e => by
    cases s with
    | dat d =>
      unfold allDat at e
      cases g : allDat ss with
      | none => rw [g] at e; cases e
      | some es =>
        rw [g] at e
        cases e
        exact .cons h.1 (allDat_ok r g)
    | _ => cases e
def pTupN {Γ : Gam} (ss : List (Sl Γ)) : Option (Sl Γ) :=
  match allDat ss with
  | some ds => if ds.length ≤ sizeLine then some (.dat (.tup ds)) else none
  | none => none
def pLstN {Γ : Gam} (ss : List (Sl Γ)) : Option (Sl Γ) :=
  match allDat ss with
  | some ds => if ds.length ≤ sizeLine then some (.lst ds) else none
  | none => none
theorem pTupN_ok {Γ : Gam} : PrimN Γ (fun xs H Q => xs.length ≤ sizeLine ∧ ∀ p, H p = none → Q (.ref p) (upd H p (.tup xs))) (pTupN (Γ := Γ)) := by
  intro M H xs ss s Q dom hp hx k
  unfold pTupN at hp
  split at hp
  · rename_i ds g
    split at hp
    · rename_i hl
      cases hp
      have r := allDat_ok hx g
      exact ⟨by rw [r.length]; exact hl, fun p hp => k.tup dom r hp⟩
    · cases hp
  · cases hp
theorem pLstN_ok {Γ : Gam} : PrimN Γ (fun xs H Q => xs.length ≤ sizeLine ∧ ∀ p, H p = none → Q (.ref p) (upd H p (.lst xs))) (pLstN (Γ := Γ)) := by
  intro M H xs ss s Q dom hp hx k
  unfold pLstN at hp
  split at hp
  · rename_i ds g
    split at hp
    · rename_i hl
      cases hp
      have r := allDat_ok hx g
      exact ⟨by rw [r.length]; exact hl, fun p hp => k.lst r hp⟩
    · cases hp
  · cases hp
section
variable {Γ : Gam} {X : Cx} {a b c e : Expr} {es : List Expr} {as : List (AE Γ)} {fa fb fc : AE Γ} {f g : Ev Γ} {pos : Pos}
theorem sd_tup {x1} (h : SdL Γ X es as) : SdE Γ X (.Tuple es x1 pos) (mN pTupN as) := fun hK σ env r env' w Q he E k => wE.of (pe_tup (pa_wL h.ns)) (runN pTupN_ok h hK he E k)
theorem sd_lst (h : SdL Γ X es as) : SdE Γ X (.List es pos) (mN pLstN as) := fun hK σ env r env' w Q he E k => wE.of (pe_lst (pa_wL h.ns)) (runN pLstN_ok h hK he E k)

/-! ### slices -/
theorem wE.mono {σ : St} {H : Hp} {Q Q' : VK} (h : wE X e σ H Q) (q : ∀ v H', Q v H' → Q' v H') : wE X e σ H Q' := fun pins s I => thn (h pins s I) fun u s1 ⟨v, H1, I1, r1, q1⟩ => ⟨v, H1, I1, r1, q v H1 q1⟩
def asInt {Γ : Gam} (s : Sl Γ) : Option Int :=
  match s.view with
  | some (.int i) => some i
  | _ => none
theorem asInt_some {s : Sl Γ} {i : Int} (h : asInt s = some i) : s.view = some (.int i) := by
  unfold asInt at h
  split at h
  · rename_i g; cases h; exact g
  · cases h
def pSl1 {Γ : Gam} (x y : Sl Γ) : Option (Sl Γ) := match asInt y with | some i => pSl x (some i) none | none => none
def pSl2 {Γ : Gam} (x y : Sl Γ) : Option (Sl Γ) := match asInt y with | some i => pSl x none (some i) | none => none
def pSl3 {Γ : Gam} : List (Sl Γ) → Option (Sl Γ)
  | [x, y, z] => match asInt y, asInt z with | some i, some j => pSl x (some i) (some j) | _, _ => none
  | _ => none
theorem pSl1_ok : Prim2 Γ (fun x y H Q => ∃ i, y = V.int i ∧ rSlAll Γ.K x (some i) none H Q) pSl1 := by
  intro M H x y sx sy s Gx Gy Q dom hp hx hy k
  unfold pSl1 at hp
  split at hp
  · rename_i i g
    exact ⟨i, hy.int (asInt_some g), pSl_ok (some i) none M H x sx s Gx Q dom hp hx k⟩
  · cases hp
theorem pSl2_ok : Prim2 Γ (fun x y H Q => ∃ i, y = V.int i ∧ rSlAll Γ.K x none (some i) H Q) pSl2 := by
  intro M H x y sx sy s Gx Gy Q dom hp hx hy k
  unfold pSl2 at hp
  split at hp
  · rename_i i g
    exact ⟨i, hy.int (asInt_some g), pSl_ok none (some i) M H x sx s Gx Q dom hp hx k⟩
  · cases hp
theorem pSl3_ok : PrimN Γ (fun xs H Q => ∃ x i j, xs = [x, V.int i, V.int j] ∧ rSlAll Γ.K x (some i) (some j) H Q) pSl3 := by
  intro M H xs ss s Q dom hp hx k
  unfold pSl3 at hp
  split at hp
  · rename_i x y z
    split at hp
    · rename_i i j g1 g2
      cases hx with
      | cons h1 r1 =>
        cases r1 with
        | cons h2 r2 =>
          cases r2 with
          | cons h3 r3 =>
            cases r3
            cases h2.int (asInt_some g1); cases h3.int (asInt_some g2)
            exact ⟨_, i, j, rfl, pSl_ok (some i) (some j) M H _ x s _ Q dom hp h1 k⟩
    · cases hp
  · cases hp
theorem sd_slLo {p2 : Pos} (ha : SdA Γ X a fa) (hb : SdA Γ X b fb) : SdE Γ X (.Subscript a (.Slice (some b) none none p2) pos) (m2 pSl1 fa fb) :=
  fun hK σ env r env' w Q he E k => wE.of (pe_slice sl_all pe_wE (po_some pe_wE) po_none) (by unfold tSl tPart tNoPart; rw [← hK.k]; exact run2 pSl1_ok ha hb hK he E k)
theorem sd_slHi {p2 : Pos} (ha : SdA Γ X a fa) (hb : SdA Γ X b fb) : SdE Γ X (.Subscript a (.Slice none (some b) none p2) pos) (m2 pSl2 fa fb) :=
  fun hK σ env r env' w Q he E k => wE.of (pe_slice sl_all pe_wE po_none (po_some pe_wE)) (by unfold tSl tPart tNoPart; rw [← hK.k]; exact run2 pSl2_ok ha hb hK he E k)
def mSlB {Γ : Gam} (fa : AE Γ) (fb fc : Ev Γ) : Ev Γ := fun env =>
  match evA fa env with
  | none => none
  | some (x, env1) => match fb env1 with
    | some (.dat (.int i), env2) => match fc env2 with
      | some (.dat (.int j), env3) => match peek x env3 with
        | none => none
        | some sx => (pSl sx (some i) (some j)).map fun s => (s, env3)
      | _ => none
    | _ => none
theorem sd_slBoth {p2 : Pos} (ha : SdA Γ X a fa) (hb : SdE Γ X b f) (hc : SdE Γ X c g) : SdE Γ X (.Subscript a (.Slice (some b) (some c) none p2) pos) (mSlB fa f g) := by
  intro hK σ env r env' w Q he E k
  refine wE.of (pe_slice sl_all pe_wE (po_some pe_wE) (po_some pe_wE)) ?_
  unfold tSl tPart
  rw [← hK.k]
  unfold mSlB at he
  cases g1 : evA fa env with
  | none => simp only [g1] at he; cases he
  | some q =>
    obtain ⟨x, env1⟩ := q
    simp only [g1] at he
    split at he
    · rename_i i env2 g2
      split at he
      · rename_i j env3 g3
        cases g4 : peek x env3 with
        | none => simp only [g4] at he; cases he
        | some sx =>
          simp only [g4] at he
          cases g5 : pSl sx (some i) (some j) with
          | none => rw [g5] at he; cases he
          | some s1 =>
            rw [g5] at he
            cases he
            refine sda_run ha hK g1 E fun v w1 Fr E1 A1 p1 f1 => ?_
            refine hb hK σ env1 _ _ w1 _ g2 E1 fun u w2 Fr2 E2 T2 p2 f2 => ⟨i, T2.rep.int rfl, ?_⟩
            refine hc hK σ env2 _ _ w2 _ g3 E2 fun u3 w3 Fr3 E3 T3 p3 f3 => ⟨j, T3.rep.int rfl, ?_⟩
            obtain ⟨G1, r1⟩ := ((A1.step E1 p2).step E2 p3).peek E3 g4
            have p13 := (p1.trans p2 E.dom).trans p3 E.dom
            exact pSl_ok (some i) (some j) w3.M w3.H v sx r G1 Q E3.dom g5 r1 (res_of E3 fun v4 w4 Fr4 E4 T4 p4 f4 => k v4 w4 Fr4 E4 T4 (p13.trans p4 E.dom) (f4.back p13))
      · cases he
    · cases he

/-! ### calls of built-ins -/
theorem CallR.imp {fv : Value} {r r' : List V → Hp → VK → Prop} (h : CallR X fv r) (q : ∀ xs H Q, r' xs H Q → r xs H Q) : CallR X fv r' := fun pins s σ H xs us Q I rv h' => h pins s σ H xs us Q I rv (q xs H Q h')
def pN1 {Γ : Gam} (p : Sl Γ → Option (Sl Γ)) : List (Sl Γ) → Option (Sl Γ)
  | [x] => p x
  | _ => none
def pN2 {Γ : Gam} (p : Sl Γ → Sl Γ → Option (Sl Γ)) : List (Sl Γ) → Option (Sl Γ)
  | [x, y] => p x y
  | _ => none
theorem pN1_ok {r : V → Hp → VK → Prop} {p : Sl Γ → Option (Sl Γ)} (h : Prim1 Γ r p) : PrimN Γ (fun xs H Q => ∃ x, xs = [x] ∧ r x H Q) (pN1 p) := by
  intro M H xs ss s Q dom hp hx k
  cases hx with
  | nil => cases hp
  | cons h1 r1 =>
    cases r1 with
    | nil => exact ⟨_, rfl, h M H _ _ s _ Q dom hp h1 k⟩
    | cons _ _ => cases hp
theorem pN2_ok {r : R2} {p : Sl Γ → Sl Γ → Option (Sl Γ)} (h : Prim2 Γ r p) : PrimN Γ (fun xs H Q => ∃ x y, xs = [x, y] ∧ r x y H Q) (pN2 p) := by
  intro M H xs ss s Q dom hp hx k
  cases hx with
  | nil => cases hp
  | cons h1 r1 =>
    cases r1 with
    | nil => cases hp
    | cons h2 r2 =>
      cases r2 with
      | nil => exact ⟨_, _, rfl, h M H _ _ _ _ s _ _ Q dom hp h1 h2 k⟩
      | cons _ _ => cases hp
/-- a built-in function, a built-in type, by what it does with values -/
structure Blt (Γ : Gam) (X : Cx) (fv : Value) (p : List (Sl Γ) → Option (Sl Γ)) : Prop where
  ex : ∃ r, (Gd Γ X → CallR X fv r) ∧ PrimN Γ r p
theorem sd_callB {x : Str} {id : String} {p : Pos} {pr : List (Sl Γ) → Option (Sl Γ)} (h : Blt Γ X (.builtin id) pr) (hg : Gl X x) (hm : X.mg x = none) (hv : bootBuiltins x = some (.builtin id)) (ha : SdL Γ X (e :: es) as) (hn : x ≠ "__name__" := by decide) (hdb : (x == ("__debug__" : Str)) = false := by decide)
    (hpl : (backTo pos (starEach es X.env)).any (·.1) = false := by rfl) : SdE Γ X (.Call (.Name x p) (e :: es) [] pos) (mN pr as) := by
  obtain ⟨r, h1, h2⟩ := h
  exact fun hK σ env s env' w Q he E k => wE.of (pe_callB (h1 hK) hg hm hv (pa_wL ha.ns) hn hdb (ha.ns e List.mem_cons_self es) hpl) (runN h2 ha hK he E k)
theorem sd_callTy {x : Str} {id : String} {p : Pos} {pr : List (Sl Γ) → Option (Sl Γ)} (h : Blt Γ X (.type id) pr) (hg : Gl X x) (hm : X.mg x = none) (hv : bootBuiltins x = some (.type id)) (ha : SdL Γ X (e :: es) as) (hn : x ≠ "__name__" := by decide) (hdb : (x == ("__debug__" : Str)) = false := by decide)
    (hpl : (backTo pos (starEach es X.env)).any (·.1) = false := by rfl) : SdE Γ X (.Call (.Name x p) (e :: es) [] pos) (mN pr as) := by
  obtain ⟨r, h1, h2⟩ := h
  exact fun hK σ env s env' w Q he E k => wE.of (pe_callTy (h1 hK) hg hm hv (pa_wL ha.ns) hn hdb (ha.ns e List.mem_cons_self es) hpl) (runN h2 ha hK he E k)
def pLen {Γ : Gam} (x : Sl Γ) : Option (Sl Γ) :=
  match x.view with
  | some (.lst ds) => some (di ds.length)
  | some (.tup ds) => some (di ds.length)
  | some (.str z) => if z.length ≤ sizeLine then some (di z.length) else none
  | _ => none
theorem b_len : Blt Γ X (.builtin "len") (pN1 pLen) := by
  refine ⟨_, fun g => CallR.imp call_len fun xs H Q h => ?_, pN1_ok (r := fun x H Q => ∃ n : Nat, LenV Γ.K x H n ∧ Q (.int n) H) ?_⟩
  · obtain ⟨x, e, n, h1, h2⟩ := h
    exact ⟨x, n, e, by rw [← g.k]; exact h1, h2⟩
  · intro M H x sx s Gx Q dom hp hx k
    unfold pLen at hp
    split at hp
    · rename_i ds e1
      cases hp
      obtain ⟨p, vs, rfl, hq, r⟩ := hx.list e1
      exact ⟨_, .inl ⟨vs, hq, rfl⟩, by rw [r.length]; exact k.dat (.int _)⟩
    · rename_i ds e1
      cases hp
      obtain ⟨p, vs, rfl, hq, r⟩ := hx.tuple e1
      exact ⟨_, .inr ⟨vs, hq.sq, rfl⟩, by rw [r.length]; exact k.dat (.int _)⟩
    · rename_i z e1
      split at hp
      · rename_i hl
        cases hp
        cases hx.str e1
        exact ⟨_, ⟨hl, rfl⟩, k.dat (.int _)⟩
      · cases hp
    · cases hp
def pAbs {Γ : Gam} (x : Sl Γ) : Option (Sl Γ) :=
  match x.view with
  | some (.int i) => some (di (if i < 0 then -i else i))
  | _ => none
theorem b_abs : Blt Γ X (.builtin "abs") (pN1 pAbs) := by
  refine ⟨_, fun g => CallR.imp call_abs fun xs H Q h => ?_, pN1_ok (r := fun x H Q => ∃ i : Int, x = .int i ∧ Q (.int (if i < 0 then -i else i)) H) ?_⟩
  · obtain ⟨x, e, i, h1, h2⟩ := h
    subst h1
    exact ⟨i, e, h2⟩
  · intro M H x sx s Gx Q dom hp hx k
    unfold pAbs at hp
    split at hp
    · rename_i i e1
      cases hp
      exact ⟨i, hx.int e1, k.dat (.int _)⟩
    · cases hp
def pInt {Γ : Gam} (x : Sl Γ) : Option (Sl Γ) :=
  match x.view with
  | some (.int i) => some (di i)
  | some (.bl b) => some (di (if b then 1 else 0))
  | _ => none
theorem b_int : Blt Γ X (.type "int") (pN1 pInt) := by
  refine ⟨_, fun g => CallR.imp call_int1 fun xs H Q h => ?_, pN1_ok (r := fun x H Q => (∃ i, x = V.int i ∧ Q (.int i) H) ∨ ∃ k, x = V.bl k ∧ Q (.int (if k then 1 else 0)) H) ?_⟩
  · obtain ⟨x, e, h⟩ := h
    rcases h with ⟨i, h1, h2⟩ | ⟨i, h1, h2⟩
    · subst h1; exact .inl ⟨i, e, h2⟩
    · subst h1; exact .inr ⟨i, e, h2⟩
  · intro M H x sx s Gx Q dom hp hx k
    unfold pInt at hp
    split at hp
    · rename_i i e1
      cases hp
      exact .inl ⟨i, hx.int e1, k.dat (.int _)⟩
    · rename_i i e1
      cases hp
      exact .inr ⟨i, hx.bl e1, k.dat (.int _)⟩
    · cases hp
theorem prim_2i {r : R2} {h : Int → Int → Int} (hr : ∀ i j H Q, Q (V.int (h i j)) H → r (.int i) (.int j) H Q) : Prim2 Γ r (p0 fun i j => .int (h i j)) := by
  intro M H x y sx sy s Gx Gy Q dom hp hx hy k
  unfold p0 at hp
  split at hp
  · rename_i i j e1 e2
    cases hp
    cases hx.int e1; cases hy.int e2
    exact hr i j H Q (k.dat (.int _))
  · cases hp
theorem b_max : Blt Γ X (.builtin "max") (pN2 (p0 fun i j => .int (if j > i then j else i))) := by
  refine ⟨_, fun g => CallR.imp (call_max2 g.calm) fun xs H Q h => ?_, pN2_ok (r := fun x y H Q => ∃ i j, x = V.int i ∧ y = V.int j ∧ Q (.int (if j > i then j else i)) H) (prim_2i fun i j H Q q => ⟨i, j, rfl, rfl, q⟩)⟩
  obtain ⟨x, y, e, i, j, h1, h2, h3⟩ := h
  subst h1 h2
  exact ⟨i, j, e, h3⟩
theorem b_min : Blt Γ X (.builtin "min") (pN2 (p0 fun i j => .int (if j < i then j else i))) := by
  refine ⟨_, fun g => CallR.imp (call_min2 g.calm) fun xs H Q h => ?_, pN2_ok (r := fun x y H Q => ∃ i j, x = V.int i ∧ y = V.int j ∧ Q (.int (if j < i then j else i)) H) (prim_2i fun i j H Q q => ⟨i, j, rfl, rfl, q⟩)⟩
  obtain ⟨x, y, e, i, j, h1, h2, h3⟩ := h
  subst h1 h2
  exact ⟨i, j, e, h3⟩
def pList {Γ : Gam} (x : Sl Γ) : Option (Sl Γ) :=
  match x.view with
  | some (.lst ds) => some (.lst ds)
  | some (.tup ds) => some (.lst ds)
  | _ => none
theorem b_list : Blt Γ X (.type "list") (pN1 pList) := by
  refine ⟨_, fun g => CallR.imp call_list_of fun xs H Q h => ?_, pN1_ok (r := fun x H Q => ∃ p ys, x = V.ref p ∧ (SqL Γ.K H p ys ∨ SqT Γ.K H p ys) ∧ ∀ l, H l = none → Q (.ref l) (upd H l (.lst ys))) ?_⟩
  · obtain ⟨x, e, p, ys, h1, h2, h3⟩ := h
    subst h1
    exact ⟨p, ys, e, by rw [← g.k]; exact h2, h3⟩
  · intro M H x sx s Gx Q dom hp hx k
    unfold pList at hp
    split at hp
    · rename_i ds e1
      cases hp
      obtain ⟨p, vs, rfl, hq, r⟩ := hx.list e1
      exact ⟨p, vs, rfl, .inl hq, fun l hl => k.lst r hl⟩
    · rename_i ds e1
      cases hp
      obtain ⟨p, vs, rfl, hq, r⟩ := hx.tuple e1
      exact ⟨p, vs, rfl, .inr hq.sq, fun l hl => k.lst r hl⟩
    · cases hp
def pTuple {Γ : Gam} (x : Sl Γ) : Option (Sl Γ) :=
  match x.view with
  | some (.lst ds) => some (.dat (.tup ds))
  | some (.tup ds) => some (.dat (.tup ds))
  | _ => none
theorem b_tuple : Blt Γ X (.type "tuple") (pN1 pTuple) := by
  refine ⟨_, fun g => CallR.imp call_tuple_of fun xs H Q h => ?_, pN1_ok (r := fun x H Q => ∃ p ys, x = V.ref p ∧ ((SqL Γ.K H p ys ∧ ∀ l, H l = none → Q (.ref l) (upd H l (.tup ys))) ∨ (SqT Γ.K H p ys ∧ Q (.ref p) H))) ?_⟩
  · obtain ⟨x, e, p, ys, h1, h2⟩ := h
    subst h1
    exact ⟨p, ys, e, by rw [← g.k]; exact h2⟩
  · intro M H x sx s Gx Q dom hp hx k
    unfold pTuple at hp
    split at hp
    · rename_i ds e1
      cases hp
      obtain ⟨p, vs, rfl, hq, r⟩ := hx.list e1
      exact ⟨p, vs, rfl, .inl ⟨hq, fun l hl => k.tup dom r hl⟩⟩
    · rename_i ds e1
      cases hp
      obtain ⟨p, vs, rfl, hq, r⟩ := hx.tuple e1
      exact ⟨p, vs, rfl, .inr ⟨hq.sq, k.dat (.tup hq r)⟩⟩
    · cases hp
def allBl : List D → Option (List Bool)
  | [] => some []
  | .bl b :: r => (allBl r).map (b :: ·)
  | _ => none
theorem allBl_ok {M : Addr → Prop} {H : Hp} : ∀ {vs : List V} {ds : List D} {bs : List Bool}, Dats Γ M H vs ds → allBl ds = some bs → vs = bs.map V.bl
  | _, _, _, .nil, e => by cases e; rfl
  | _, _, _, .cons (d := d) (ds := ds) h r, e => by
    cases d with
    | bl b =>
      unfold allBl at e
      cases g : allBl ds with
      | none => rw [g] at e; cases e
      | some es =>
        rw [g] at e
        cases e
        cases h
        rw [allBl_ok r g]
        rfl
    | _ => cases e
def pBools {Γ : Gam} (q : List Bool → Bool) (x : Sl Γ) : Option (Sl Γ) :=
  match x.view with
  | some (.lst ds) => (allBl ds).map fun bs => db (q bs)
  | _ => none
theorem pBools_ok {q : List Bool → Bool} : Prim1 Γ (fun x H Q => ∃ (a : Addr) (bs : List Bool), x = V.ref a ∧ SqL Γ.K H a (bs.map V.bl) ∧ Q (.bl (q bs)) H) (pBools q) := by
  intro M H x sx s Gx Q dom hp hx k
  unfold pBools at hp
  split at hp
  · rename_i ds e1
    cases g : allBl ds with
    | none => rw [g] at hp; cases hp
    | some bs =>
      rw [g] at hp
      cases hp
      obtain ⟨p, vs, rfl, hq, r⟩ := hx.list e1
      have ev := allBl_ok r g
      subst ev
      exact ⟨p, bs, rfl, hq, k.dat (.bl _)⟩
  · cases hp
theorem b_all : Blt Γ X (.builtin "all") (pN1 (pBools fun bs => bs.all id)) := by
  refine ⟨_, fun g => CallR.imp (cr_all g.calm) fun xs H Q h => ?_, pN1_ok pBools_ok⟩
  obtain ⟨x, e, a, bs, h1, h2, h3⟩ := h
  subst h1
  exact ⟨a, bs, e, by rw [← g.k]; exact h2, h3⟩
theorem b_any : Blt Γ X (.builtin "any") (pN1 (pBools fun bs => bs.any id)) := by
  refine ⟨_, fun g => CallR.imp (cr_any g.calm) fun xs H Q h => ?_, pN1_ok pBools_ok⟩
  obtain ⟨x, e, a, bs, h1, h2, h3⟩ := h
  subst h1
  exact ⟨a, bs, e, by rw [← g.k]; exact h2, h3⟩
end
end G

/-! G7: targets, what is walked, statements, for -/
namespace G
open PySem L2

def wG (X : Cx) (tg : Expr) : TG := fun v σ H Q => ∀ (u : Value) pins s, RelV v u → Inv X pins σ H s → wpAny (model X.prog X.w) X.A (assign tg X.env u) (fun _ s' => ∃ σ' H', Inv X pins σ' H' s' ∧ Q σ' H') X.xe s
def wI (X : Cx) (tg iter : Expr) : TI := fun σ H R => ∀ pins s, Inv X pins σ H s → wpAny (model X.prog X.w) X.A (eval iter X.env) (fun v s1 => wpAny (model X.prog X.w) X.A (pyIter v) (PIE X pins σ tg R) X.xe s1) X.xe s
theorem pg_wG {X : Cx} {tg : Expr} : PG X tg (wG X tg) := ⟨fun pins s σ H v u Q I r h => h u pins s r I⟩
theorem pi_wI {X : Cx} {tg iter : Expr} : PI X tg iter (wI X tg iter) := ⟨fun pins s σ H R I h => h pins s I⟩
theorem wG.of {X : Cx} {tg : Expr} {t : TG} {v : V} {σ : St} {H : Hp} {Q : St → Hp → Prop} (h : PG X tg t) (q : t v σ H Q) : wG X tg v σ H Q := fun u pins s r I => h.run pins s σ H v u Q I r q
theorem wI.of {X : Cx} {tg iter : Expr} {t : TI} {σ : St} {H : Hp} {R : It → Hp → Prop} (h : PI X tg iter t) (q : t σ H R) : wI X tg iter σ H R := fun pins s I => h.run pins s σ H R I q

/-- the slots outside A hold what they held -/
structure Agree (A : List Nat) (σ σ' : St) : Prop where
  len : σ'.length = σ.length
  get : ∀ i, i ∉ A → σ'[i]? = σ[i]?
theorem Agree.refl {A : List Nat} {σ : St} : Agree A σ σ := ⟨rfl, fun _ _ => rfl⟩
theorem Agree.trans {A : List Nat} {σ σ1 σ2 : St} (h : Agree A σ σ1) (h' : Agree A σ1 σ2) : Agree A σ σ2 := ⟨h'.len.trans h.len, fun i n => (h'.get i n).trans (h.get i n)⟩
theorem Agree.set {A : List Nat} {σ : St} {i : Nat} {v : Option V} (h : i ∈ A) : Agree A σ (σ.set i v) := ⟨List.length_set, fun j n => List.getElem?_set_ne (fun (e : i = j) => n (e ▸ h))⟩

section
variable {Γ : Gam} {X : Cx} {w : Wd} {σ : St} {env : Env Γ}
theorem ER.set (E : ER Γ w σ env) {v : V} {s : Sl Γ} {Fr : Addr → Prop} (T : TR Γ w v s Fr) {i : Nat} (hi : i < env.length) : ER Γ ⟨w.M, fun j a => if j = i then Fr a else w.F j a, w.H⟩ (σ.set i (some v)) (env.set i s) := by
  refine ⟨by rw [List.length_set, List.length_set]; exact E.len, fun j t hj => ?_, fun j a f => ?_, fun j k a f f' => ?_, E.dom, fun j hj a f => ?_⟩
  · by_cases e : j = i
    · subst e
      rw [List.getElem?_set_self hi] at hj
      cases hj
      refine .inr ⟨v, by rw [List.getElem?_set_self (by rw [← E.len]; exact hi)], ?_⟩
      have ef : (fun a => if j = j then Fr a else w.F j a) = Fr := by funext a; rw [if_pos rfl]
      show SR Γ w.M w.H v s (fun a => if j = j then Fr a else w.F j a)
      rw [ef]
      exact T.rep
    · rw [List.getElem?_set_ne (Ne.symm e)] at hj
      have ef : (fun a => if j = i then Fr a else w.F j a) = w.F j := by funext a; rw [if_neg e]
      rcases E.slot j t hj with ⟨z1, z2⟩ | ⟨u, eu, ru⟩
      · refine .inl ⟨z1, fun a f => ?_⟩
        have f' : (if j = i then Fr a else w.F j a) := f
        rw [if_neg e] at f'
        exact z2 a f'
      · refine .inr ⟨u, by rw [List.getElem?_set_ne (Ne.symm e)]; exact eu, ?_⟩
        show SR Γ w.M w.H u t (fun a => if j = i then Fr a else w.F j a)
        rw [ef]
        exact ru
  · have f' : (if j = i then Fr a else w.F j a) := f
    split at f'
    · exact T.sub a f'
    · exact E.sub j a f'
  · have g : (if j = i then Fr a else w.F j a) := f
    have g' : (if k = i then Fr a else w.F k a) := f'
    split at g
    · rename_i e1
      split at g'
      · rename_i e2; rw [e1, e2]
      · exact absurd g' (T.off a k g)
    · split at g'
      · exact absurd g (T.off a j g')
      · exact E.dis j k a g g'
  · have g : (if j = i then Fr a else w.F j a) := f
    rw [List.length_set] at hj
    split at g
    · omega
    · exact E.out j hj a g
theorem Step.set {w0 : Wd} {i : Nat} {Fr : Addr → Prop} (p : Step w0 w) (f : Fresh w0 Fr) : Step w0 ⟨w.M, fun j a => if j = i then Fr a else w.F j a, w.H⟩ :=
  ⟨p.keep, p.mu, p.src, fun j a g => by
    have g' : (if j = i then Fr a else w.F j a) := g
    split at g'
    · exact f a g'
    · exact p.own j a g', p.live⟩

/-! ### targets -/
abbrev Eg (Γ : Gam) := D → Env Γ → Option (Env Γ)
def SdG (Γ : Gam) (X : Cx) (A : List Nat) (tg : Expr) (t : Eg Γ) : Prop := Gd Γ X → ∀ (σ : St) (env : Env Γ) (d : D) (env' : Env Γ) (w : Wd) (v : V) (Q : St → Hp → Prop), t d env = some env' → ER Γ w σ env → Dat Γ w.M w.H v d →
  (∀ σ' w', ER Γ w' σ' env' → Step w w' → Agree A σ σ' → Q σ' w'.H) → wG X tg v σ w.H Q
def gNm {Γ : Gam} (i : Nat) : Eg Γ := fun d env => if i < env.length then some (env.set i (.dat d)) else none
theorem TR.dat {v : V} {d : D} (h : Dat Γ w.M w.H v d) : TR Γ w v (.dat d) (fun _ => False) := ⟨⟨h, fun _ z => z⟩, fun _ z => z.elim, fun _ _ z => z.elim⟩
theorem sdg_name {A : List Nat} {pos : Pos} (i : Nat) {x : Str} (hA : i ∈ A) (hi : X.N[i]? = some x) (hx : Loc X.env.scope x) (hf : X.fn x = true ∨ X.env.scope.names.lookup x = some .local) : SdG Γ X A (.Name x pos) (gNm i) := by
  intro hK σ env d env' w v Q he E hd k
  refine wG.of (pg_name hK.nd hi hx hf) ?_
  unfold gNm at he
  split at he
  · rename_i hl
    cases he
    exact k _ ⟨w.M, fun j a => if j = i then False else w.F j a, w.H⟩ (E.set (TR.dat hd) hl) ((Step.refl w).set fun _ z => z.elim) (Agree.set hA)
  · cases he
inductive SdGs (Γ : Gam) (X : Cx) (A : List Nat) : List Expr → List (Eg Γ) → Prop
  | nil : SdGs Γ X A [] []
  | cons {e : Expr} {es : List Expr} {t : Eg Γ} {ts : List (Eg Γ)} : SdG Γ X A e t → ((assignEach (e :: es) X.env).map (·.2) = assign e X.env :: (assignEach es X.env).map (·.2)) → SdGs Γ X A es ts → SdGs Γ X A (e :: es) (t :: ts)
def gAll {Γ : Gam} : List (Eg Γ) → List D → Env Γ → Option (Env Γ)
  | [], [], env => some env
  | t :: ts, d :: ds, env => match t d env with
    | none => none
    | some env1 => gAll ts ds env1
  | _, _, _ => none
def gTp {Γ : Gam} (ts : List (Eg Γ)) : Eg Γ := fun d env =>
  match d with
  | .tup ds => gAll ts ds env
  | _ => none
def wGs (X : Cx) : List Expr → TGs
  | [] => gNil
  | e :: es => gCons (wG X e) (wGs X es)
theorem SdGs.pgs {A : List Nat} : ∀ {es : List Expr} {ts : List (Eg Γ)}, SdGs Γ X A es ts → PGs X es (wGs X es)
  | _, _, .nil => pgs_nil
  | _, _, .cons h n r => pgs_cons pg_wG (SdGs.pgs r) n
theorem gAll_len {ts : List (Eg Γ)} : ∀ {ds : List D} {env env' : Env Γ}, gAll ts ds env = some env' → ts.length = ds.length := by
  induction ts with
  | nil => intro ds env env' h; cases ds with | nil => rfl | cons _ _ => cases h
  | cons t ts ih =>
    intro ds env env' h
    cases ds with
    | nil => cases h
    | cons d ds =>
      unfold gAll at h
      cases g : t d env with
      | none => rw [g] at h; cases h
      | some env1 => rw [g] at h; rw [List.length_cons, List.length_cons, ih h]
theorem gAll_run (hK : Gd Γ X) {A : List Nat} : ∀ {es : List Expr} {ts : List (Eg Γ)} {ds : List D} {vs : List V} {σ : St} {env env' : Env Γ} {w : Wd} {Q : St → Hp → Prop}, SdGs Γ X A es ts → gAll ts ds env = some env' → ER Γ w σ env → Dats Γ w.M w.H vs ds →
    (∀ σ' w', ER Γ w' σ' env' → Step w w' → Agree A σ σ' → Q σ' w'.H) → wGs X es vs σ w.H Q
  | _, _, ds, vs, σ, env, env', w, Q, .nil, he, E, hd, k => by
    cases ds with
    | nil => cases he; cases hd; exact ⟨rfl, k σ w E (Step.refl w) Agree.refl⟩
    | cons _ _ => cases he
  | _, _, ds, vs, σ, env, env', w, Q, .cons (e := e) (es := es) (t := t) (ts := ts) h n r, he, E, hd, k => by
    cases ds with
    | nil => cases he
    | cons d ds =>
      unfold gAll at he
      cases g : t d env with
      | none => rw [g] at he; cases he
      | some env1 =>
        rw [g] at he
        cases hd with
        | cons h1 h2 =>
          refine ⟨_, _, rfl, h hK σ env d env1 w _ _ g E h1 fun σ1 w1 E1 p1 a1 => ?_⟩
          exact gAll_run hK r he E1 (h2.go (E.go p1)) fun σ2 w2 E2 p2 a2 => k σ2 w2 E2 (p1.trans p2 E.dom) (a1.trans a2)
theorem sdg_tup {A : List Nat} {es : List Expr} {ts : List (Eg Γ)} {k : Nat} {pos : Pos} (h : SdGs Γ X A es ts) (hn : (assignEach es X.env).length = ts.length) (hst : (assignEach es X.env).findIdx? (·.1) = none) : SdG Γ X A (.Tuple es k pos) (gTp ts) := by
  intro hK σ env d env' w v Q he E hd k
  refine wG.of (pg_tup hK.calm h.pgs hn hst) ?_
  cases d with
  | tup ds =>
    cases hd with
    | tup ht r => exact ⟨_, _, rfl, by rw [← hK.k]; exact ht.sq, by rw [r.length]; exact (gAll_len (show gAll ts ds env = some env' from he)).symm, gAll_run hK h he E r k⟩
  | _ => cases he

/-! ### what is walked -/
/-- J walks the data ds, wherever what is not changed stays -/
structure ItOk (Γ : Gam) (J : It) (ds : List D) (M : Addr → Prop) (H : Hp) : Prop where
  go : ∀ M' H', Go M H M' H' → (∀ a, M' a → H' a ≠ none) → ∀ i d, ds[i]? = some d → J.go i H' ∧ ∀ x H2, J.yld i H' x H2 → (∀ a u, H' a = some u → H2 a = some u) ∧ Dat Γ M' H2 x d
  stop : ∀ M' H', Go M H M' H' → J.stop ds.length H'
theorem Go.trans {M M1 M2 : Addr → Prop} {H H1 H2 : Hp} (a : Go M H M1 H1) (b : Go M1 H1 M2 H2) : Go M H M2 H2 :=
  ⟨fun x u n e => b.keep x u (a.stay x n (by rw [e]; simp)) (a.keep x u n e), fun x n e => by
    cases q : H x with
    | none => exact absurd q e
    | some u => exact b.stay x (a.stay x n e) (by rw [a.keep x u n q]; simp)⟩
theorem ItOk.step {J : It} {ds : List D} {M M' : Addr → Prop} {H H' : Hp} (h : ItOk Γ J ds M H) (g : Go M H M' H') : ItOk Γ J ds M' H' := ⟨fun M2 H2 g2 => h.go M2 H2 (g.trans g2), fun M2 H2 g2 => h.stop M2 H2 (g.trans g2)⟩
abbrev Ei (Γ : Gam) := Env Γ → Option (List D × Env Γ)
def SdI (Γ : Gam) (X : Cx) (tg iter : Expr) (f : Ei Γ) : Prop := Gd Γ X → ∀ (σ : St) (env : Env Γ) (ds : List D) (env' : Env Γ) (w : Wd) (R : It → Hp → Prop), f env = some (ds, env') → ER Γ w σ env →
  (∀ J w', ER Γ w' σ env' → Step w w' → ItOk Γ J ds w'.M w'.H → R J w'.H) → wI X tg iter σ w.H R
def iSeq {Γ : Gam} (f : Ev Γ) : Ei Γ := fun env =>
  match f env with
  | some (.dat (.lst ds), env') => some (ds, env')
  | some (.dat (.tup ds), env') => some (ds, env')
  | some (.scr ns, env') => some (ns.map .int, env')
  | _ => none
theorem ItOk.list {a : Addr} {vs : List V} {ds : List D} {M : Addr → Prop} {H : Hp} (h : LstM Γ.K M H a vs) (r : Dats Γ M H vs ds) : ItOk Γ (Itl Γ.K a) ds M H := by
  refine ⟨fun M' H' g _ i d e => ?_, fun M' H' g => ⟨vs, (h.go g).sq, Nat.le_of_eq r.length⟩⟩
  obtain ⟨v, ev, hv⟩ := r.get e
  refine ⟨⟨vs, v, (h.go g).sq, ev⟩, fun x H2 y => ?_⟩
  obtain ⟨rfl, y⟩ := y
  have q := y vs (h.go g).sq
  rw [ev] at q
  cases q
  exact ⟨fun _ _ z => z, hv.go g⟩
theorem ItOk.tup {a : Addr} {vs : List V} {ds : List D} {M : Addr → Prop} {H : Hp} (h : TupM Γ.K M H a vs) (r : Dats Γ M H vs ds) : ItOk Γ (Itt Γ.K a) ds M H := by
  refine ⟨fun M' H' g _ i d e => ?_, fun M' H' g => ⟨vs, (h.go g).sq, Nat.le_of_eq r.length⟩⟩
  obtain ⟨v, ev, hv⟩ := r.get e
  refine ⟨⟨vs, v, (h.go g).sq, ev⟩, fun x H2 y => ?_⟩
  obtain ⟨rfl, y⟩ := y
  have q := y vs (h.go g).sq
  rw [ev] at q
  cases q
  exact ⟨fun _ _ z => z, hv.go g⟩
theorem sdi_seq {tg iter : Expr} {f : Ev Γ} (h : SdE Γ X iter f) : SdI Γ X tg iter (iSeq f) := by
  intro hK σ env ds env' w R he E k
  unfold iSeq at he
  split at he
  · rename_i ds1 env1 g
    cases he
    refine wI.of (pi_list pe_wE) (h hK σ env _ _ w _ g E fun v w1 Fr E1 T1 p1 f1 => ?_)
    cases T1.rep.1 with
    | lst n hp r => exact ⟨_, rfl, ⟨_, SqL.of hp⟩, by rw [← hK.k]; exact k _ w1 E1 p1 (.list (.inl ⟨n, .inl hp⟩) r)⟩
  · rename_i ds1 env1 g
    cases he
    refine wI.of (pi_tup pe_wE) (h hK σ env _ _ w _ g E fun v w1 Fr E1 T1 p1 f1 => ?_)
    cases T1.rep.1 with
    | tup hp r => exact ⟨_, rfl, ⟨_, by rw [← hK.k]; exact hp.sq⟩, by rw [← hK.k]; exact k _ w1 E1 p1 (.tup hp r)⟩
  · rename_i ns env1 g
    cases he
    refine wI.of (pi_list pe_wE) (h hK σ env _ _ w _ g E fun v w1 Fr E1 T1 p1 f1 => ?_)
    obtain ⟨⟨a, rfl, hl⟩, _⟩ := T1.rep
    exact ⟨a, rfl, ⟨_, by rw [← hK.k]; exact hl.sq⟩, by rw [← hK.k]; exact k _ w1 E1 p1 (.list hl (dats_ints ns))⟩
  · cases he
/-- range(n) -/
def iRng {Γ : Gam} (f : Ev Γ) : Ei Γ := fun env =>
  match f env with
  | some (.dat (.int n), env') => if n < 2 ^ 62 ∧ -(2 ^ 62) ≤ n then some ((List.range n.toNat).map fun (k : Nat) => D.int (k : Int), env') else none
  | _ => none
theorem ItOk.rng {lo : Int} {n : Nat} {M : Addr → Prop} {H : Hp} : ItOk Γ (Itr lo n) ((List.range n).map fun (k : Nat) => D.int (lo + (k : Int))) M H := by
  refine ⟨fun M' H' g _ i d e => ?_, fun M' H' g => ?_⟩
  · rw [List.getElem?_map] at e
    cases q : (List.range n)[i]? with
    | none => rw [q] at e; cases e
    | some j =>
      rw [q] at e
      cases e
      have hi : i < n := by
        have := (List.getElem?_eq_some_iff.mp q).1
        rw [List.length_range] at this
        exact this
      rw [List.getElem?_range hi] at q
      cases q
      refine ⟨hi, fun x H2 y => ?_⟩
      obtain ⟨rfl, rfl⟩ := y
      exact ⟨fun _ _ z => z, .int _⟩
  · show n ≤ _
    rw [List.length_map, List.length_range]
    exact Nat.le_refl _
theorem sdi_range {tg a : Expr} {f : Ev Γ} {p pos : Pos} (hg : Gl X "range") (hm : X.mg "range" = none) (ha : SdE Γ X a f) (hs : NS X a) : SdI Γ X tg (.Call (.Name "range" p) [a] [] pos) (iRng f) := by
  intro hK σ env ds env' w R he E k
  refine wI.of (pi_range1 hg hm (pa_wL (es := [a]) fun e h => by rw [List.mem_singleton.mp h]; exact hs) (hs [])) ?_
  unfold iRng at he
  split at he
  · rename_i n env1 g
    split at he
    · rename_i hn
      cases he
      refine ha hK σ env _ _ w _ g E fun v w1 Fr E1 T1 p1 f1 => ?_
      cases T1.rep.int rfl
      refine ⟨n, rfl, hn.2, hn.1, k _ w1 E1 p1 ?_⟩
      have q := ItOk.rng (Γ := Γ) (lo := 0) (n := n.toNat) (M := w1.M) (H := w1.H)
      simpa using q
    · cases he
  · cases he
end
end G

/-! G8: statements -/
namespace G
open PySem L2

inductive Fl (Γ : Gam) where
  | nx | rt (s : Sl Γ) | bk | ct
abbrev Es (Γ : Gam) := Env Γ → Option (Fl Γ × Env Γ)
def Post (Γ : Gam) (A : List Nat) (σ : St) (w : Wd) (D : Ends) (fl : Fl Γ) (env' : Env Γ) : Prop :=
  match fl with
  | .nx => ∀ σ' w', ER Γ w' σ' env' → Step w w' → Agree A σ σ' → D.nx σ' w'.H
  | .bk => ∀ σ' w', ER Γ w' σ' env' → Step w w' → Agree A σ σ' → D.bk σ' w'.H
  | .ct => ∀ σ' w', ER Γ w' σ' env' → Step w w' → Agree A σ σ' → D.ct σ' w'.H
  | .rt s => ∀ v σ' w' Fr, ER Γ w' σ' env' → TR Γ w' v s Fr → Step w w' → Fresh w Fr → Agree A σ σ' → D.rt v w'.H
def SdS (Γ : Gam) (X : Cx) (A : List Nat) (st : Stmt) (f : Es Γ) : Prop := Gd Γ X → ∀ (σ : St) (env : Env Γ) (fl : Fl Γ) (env' : Env Γ) (w : Wd) (D : Ends), f env = some (fl, env') → ER Γ w σ env → Post Γ A σ w D fl env' → wS X st D σ w.H
def SdSs (Γ : Gam) (X : Cx) (A : List Nat) (st : List Stmt) (f : Es Γ) : Prop := Gd Γ X → ∀ (σ : St) (env : Env Γ) (fl : Fl Γ) (env' : Env Γ) (w : Wd) (D : Ends), f env = some (fl, env') → ER Γ w σ env → Post Γ A σ w D fl env' → wSs X st D σ w.H
def mNx {Γ : Gam} : Es Γ := fun env => some (.nx, env)
def mSeq {Γ : Gam} (f g : Es Γ) : Es Γ := fun env =>
  match f env with
  | some (.nx, env1) => g env1
  | r => r
def mDrop {Γ : Gam} (f : Ev Γ) : Es Γ := fun env => (f env).map fun p => (.nx, p.2)
def mRet {Γ : Gam} (f : Ev Γ) : Es Γ := fun env => (f env).map fun p => (.rt p.1, p.2)
def mSet {Γ : Gam} (i : Nat) (f : Ev Γ) : Es Γ := fun env =>
  match f env with
  | some (s, env1) => if i < env1.length then some (.nx, env1.set i s) else none
  | none => none
def mIfS {Γ : Gam} (c : Et Γ) (f g : Es Γ) : Es Γ := fun env =>
  match c env with
  | none => none
  | some (true, env1) => f env1
  | some (false, env1) => g env1
section
variable {Γ : Gam} {X : Cx} {A : List Nat} {e c : Expr} {st : Stmt} {rest : List Stmt} {f : Ev Γ} {g h' : Es Γ} {pos : Pos}
theorem Post.step {σ σ1 : St} {w w1 : Wd} {D : Ends} {fl : Fl Γ} {env' : Env Γ} (dom : ∀ a, w.M a → w.H a ≠ none) (p : Step w w1) (a : Agree A σ σ1) (h : Post Γ A σ w D fl env') : Post Γ A σ1 w1 D fl env' := by
  cases fl with
  | nx => exact fun σ' w' E q b => h σ' w' E (p.trans q dom) (a.trans b)
  | bk => exact fun σ' w' E q b => h σ' w' E (p.trans q dom) (a.trans b)
  | ct => exact fun σ' w' E q b => h σ' w' E (p.trans q dom) (a.trans b)
  | rt s => exact fun v σ' w' Fr E T q f b => h v σ' w' Fr E T (p.trans q dom) (f.back p) (a.trans b)
theorem sdss_nil : SdSs Γ X A [] mNx := fun hK σ env fl env' w D he E k => by
  cases he
  exact wSs.of pss_nil (k σ w E (Step.refl w) Agree.refl)
theorem sdss_cons (h1 : SdS Γ X A st g) (h2 : SdSs Γ X A rest h') : SdSs Γ X A (st :: rest) (mSeq g h') := by
  intro hK σ env fl env' w D he E k
  refine wSs.of (pss_cons ps_wS pss_wSs) ?_
  unfold mSeq at he
  show wS X st { D with nx := wSs X rest D } σ w.H
  cases g1 : g env with
  | none => simp only [g1] at he; cases he
  | some q =>
    obtain ⟨fl1, env1⟩ := q
    cases fl1 with
    | nx =>
      simp only [g1] at he
      exact h1 hK σ env _ _ w _ g1 E fun σ1 w1 E1 p1 a1 => h2 hK σ1 env1 fl env' w1 D he E1 (k.step E.dom p1 a1)
    | bk => simp only [g1] at he; cases he; exact h1 hK σ env _ _ w _ g1 E k
    | ct => simp only [g1] at he; cases he; exact h1 hK σ env _ _ w _ g1 E k
    | rt s => simp only [g1] at he; cases he; exact h1 hK σ env _ _ w _ g1 E k
theorem sdss_one (h1 : SdS Γ X A st g) : SdSs Γ X A [st] g := by
  intro hK σ env fl env' w D he E k
  exact wSs.of (pss_one ps_wS) (h1 hK σ env fl env' w D he E k)
theorem sds_expr (h : SdE Γ X e f) (hs : swapsWith e none pos.line X.env = pure false := by rfl) : SdS Γ X A (.Expr e pos) (mDrop f) := by
  intro hK σ env fl env' w D he E k
  refine wS.of (ps_expr pe_wE hs) ?_
  unfold mDrop at he
  cases g1 : f env with
  | none => rw [g1] at he; cases he
  | some q =>
    rw [g1] at he
    cases he
    exact h hK σ env _ _ w _ g1 E fun v w1 Fr E1 T1 p1 f1 => k σ w1 E1 p1 Agree.refl
theorem sds_ret (h : SdE Γ X e f) : SdS Γ X A (.Return (some e) pos) (mRet f) := by
  intro hK σ env fl env' w D he E k
  refine wS.of (ps_ret pe_wE) ?_
  unfold mRet at he
  cases g1 : f env with
  | none => rw [g1] at he; cases he
  | some q =>
    rw [g1] at he
    cases he
    exact h hK σ env _ _ w _ g1 E fun v w1 Fr E1 T1 p1 f1 => k v σ w1 Fr E1 T1 p1 f1 Agree.refl
theorem sds_retN : SdS Γ X A (.Return none pos) (fun env => some (.rt (.dat .non), env)) := by
  intro hK σ env fl env' w D he E k
  cases he
  exact wS.of ps_retN (k _ σ w (fun _ => False) E (TR.dat .non) (Step.refl w) (fun _ z => z.elim) Agree.refl)
theorem sds_pass : SdS Γ X A (.Pass pos) mNx := fun hK σ env fl env' w D he E k => by cases he; exact wS.of ps_pass (k σ w E (Step.refl w) Agree.refl)
theorem sds_break : SdS Γ X A (.Break pos) (fun env => some (.bk, env)) := fun hK σ env fl env' w D he E k => by cases he; exact wS.of ps_break (k σ w E (Step.refl w) Agree.refl)
theorem sds_continue : SdS Γ X A (.Continue pos) (fun env => some (.ct, env)) := fun hK σ env fl env' w D he E k => by cases he; exact wS.of ps_continue (k σ w E (Step.refl w) Agree.refl)
/-- what is never come to -/
theorem sds_never : SdS Γ X A st (fun _ => none) := fun _ _ _ _ _ _ _ he => nomatch he
theorem set_run {i : Nat} {σ : St} {env env' : Env Γ} {fl : Fl Γ} {w : Wd} {D : Ends} (hA : i ∈ A) (h : SdE Γ X e f) (hK : Gd Γ X) (he : mSet i f env = some (fl, env')) (E : ER Γ w σ env) (k : Post Γ A σ w D fl env') : tAsg (wE X e) (gName i) D σ w.H := by
  unfold mSet at he
  cases g1 : f env with
  | none => simp only [g1] at he; cases he
  | some q =>
    obtain ⟨s, env1⟩ := q
    simp only [g1] at he
    split at he
    · rename_i hl
      cases he
      refine h hK σ env _ _ w _ g1 E fun v w1 Fr E1 T1 p1 f1 => ?_
      exact k _ ⟨w1.M, fun j a => if j = i then Fr a else w1.F j a, w1.H⟩ (E1.set T1 hl) (p1.set f1) (Agree.set hA)
    · cases he
theorem sds_set (i : Nat) {x : Str} {pos' : Pos} (hA : i ∈ A) (hi : X.N[i]? = some x) (hx : Loc X.env.scope x) (h : SdE Γ X e f) (hs : swapsWith e (some (.Name x pos')) pos.line X.env = pure false := by rfl) (hf : X.fn x = true ∨ X.env.scope.names.lookup x = some .local := by first | exact .inl rfl | exact .inr rfl) :
    SdS Γ X A (.Assign [.Name x pos'] e pos) (mSet i f) := fun hK σ env fl env' w D he E k => wS.of (ps_set hK.nd hi hx pe_wE hs hf) (set_run hA h hK he E k)
theorem sds_if {tc : Et Γ} {a b : List Stmt} (hc : SdT Γ X c tc) (ha : SdSs Γ X A a g) (hb : SdSs Γ X A b h') : SdS Γ X A (.If c a b pos) (mIfS tc g h') := by
  intro hK σ env fl env' w D he E k
  refine wS.of (ps_if pt_wT pss_wSs pss_wSs) ?_
  unfold mIfS at he
  split at he
  · cases he
  · rename_i env1 g1
    refine hc hK σ env _ _ w _ g1 E fun w1 E1 p1 => ?_
    rw [if_pos rfl]
    exact ha hK σ env1 fl env' w1 D he E1 (k.step E.dom p1 Agree.refl)
  · rename_i env1 g1
    refine hc hK σ env _ _ w _ g1 E fun w1 E1 p1 => ?_
    rw [if_neg Bool.false_ne_true]
    exact hb hK σ env1 fl env' w1 D he E1 (k.step E.dom p1 Agree.refl)

/-! ### unpacking: a, b = e -/
def mUnp {Γ : Gam} (t : Eg Γ) (f : Ev Γ) : Es Γ := fun env =>
  match f env with
  | some (.dat d, env1) => (t d env1).map fun e => (.nx, e)
  | _ => none
theorem sds_unp {tg : Expr} {t : Eg Γ} (h : SdE Γ X e f) (hg : SdG Γ X A tg t) (hs : swapsWithSole [tg] e pos.line X.env = pure false := by rfl) (hw : swappedStores [tg] e X.env = pure none := by rfl) (h1 : (assignEach [tg] X.env).map (·.2) = [assign tg X.env] := by rfl) : SdS Γ X A (.Assign [tg] e pos) (mUnp t f) := by
  intro hK σ env fl env' w D he E k
  refine wS.of (ps_asg pe_wE pg_wG hs hw h1) ?_
  unfold mUnp at he
  split at he
  · rename_i d env1 g1
    cases g2 : t d env1 with
    | none => rw [g2] at he; cases he
    | some e2 =>
      rw [g2] at he
      cases he
      refine h hK σ env _ _ w _ g1 E fun v w1 Fr E1 T1 p1 f1 => ?_
      exact hg hK σ env1 d env' w1 v _ g2 E1 T1.rep.1 fun σ2 w2 E2 p2 a2 => k σ2 w2 E2 (p1.trans p2 E.dom) a2
  · cases he
/-- a, b = x, y (two plain locals) -/
def mPar {Γ : Gam} (i j : Nat) (f g : Ev Γ) : Es Γ := fun env =>
  match f env with
  | none => none
  | some (s, env1) => match g env1 with
    | none => none
    | some (t, env2) => if i < env2.length ∧ j < env2.length then some (.nx, (env2.set i s).set j t) else none
theorem sds_par {i j : Nat} {x y : Str} {a b : Expr} {fa fb : Ev Γ} {px py pt : Pos} {kt k2 pt2} (hAi : i ∈ A) (hAj : j ∈ A) (hi : X.N[i]? = some x) (hj : X.N[j]? = some y) (hij : i ≠ j)
    (hx : X.env.scope.names.lookup x = some .local) (hy : X.env.scope.names.lookup y = some .local) (ha : SdE Γ X a fa) (na : NS X a) (hb : SdE Γ X b fb) (nb : NS X b)
    (hw : swappedStores [.Tuple [.Name x px, .Name y py] kt pt] (.Tuple [a, b] k2 pt2) X.env = pure (some [x, y]))
    (hs : swapsWithSole [.Tuple [.Name x px, .Name y py] kt pt] (.Tuple [a, b] k2 pt2) pos.line X.env = pure false := by rfl) :
    SdS Γ X A (.Assign [.Tuple [.Name x px, .Name y py] kt pt] (.Tuple [a, b] k2 pt2) pos) (mPar i j fa fb) := by
  intro hK σ env fl env' w D he E k
  refine wS.of (ps_par hK.calm hK.nd hi hj hij hx hy (pa_wL (es := [a, b]) fun e h => by rcases List.mem_cons.mp h with z | z; (rw [z]; exact na); (rw [List.mem_singleton.mp z]; exact nb)) hw hs) ?_
  unfold mPar at he
  cases g1 : fa env with
  | none => simp only [g1] at he; cases he
  | some q =>
    obtain ⟨s, env1⟩ := q
    simp only [g1] at he
    cases g2 : fb env1 with
    | none => simp only [g2] at he; cases he
    | some q =>
      obtain ⟨t, env2⟩ := q
      simp only [g2] at he
      split at he
      · rename_i hl
        cases he
        refine ha hK σ env _ _ w _ g1 E fun v w1 Fr E1 T1 p1 f1 => ?_
        refine hb hK σ env1 _ _ w1 _ g2 E1 fun u w2 Fr2 E2 T2 p2 f2 => ?_
        refine ⟨v, u, rfl, ?_⟩
        have T1' := TR.step E1 T1 p2
        have dis : ∀ z, Fr z → ¬ Fr2 z := fun z q q' => by
          rcases f2 z q' with ⟨i, r⟩ | r
          · exact T1.off z i q r
          · exact E1.dom z (T1.sub z q) r
        have p12 := p1.trans p2 E.dom
        have E3 := E2.set T1' hl.1
        have T2' : TR Γ ⟨w2.M, fun j a => if j = i then Fr a else w2.F j a, w2.H⟩ u t Fr2 := ⟨T2.rep, T2.sub, fun a l q z => by
          have z' : (if l = i then Fr a else w2.F l a) := z
          split at z'
          · exact dis a z' q
          · exact T2.off a l q z'⟩
        have E4 := E3.set T2' (i := j) (by rw [List.length_set]; exact hl.2)
        exact k _ ⟨w2.M, fun l a => if l = j then Fr2 a else if l = i then Fr a else w2.F l a, w2.H⟩ E4 ((p12.set f1).set (f2.back p1)) ((Agree.set hAi).trans (Agree.set hAj))
      · cases he
end
end G

/-! G9: for loops and comprehensions -/
namespace G
open PySem L2

def forL {Γ : Gam} (t : Eg Γ) (g : Es Γ) : List D → Env Γ → Option (Fl Γ × Env Γ)
  | [], env => some (.nx, env)
  | d :: ds, env => match t d env with
    | none => none
    | some e1 => match g e1 with
      | some (.nx, e2) => forL t g ds e2
      | some (.ct, e2) => forL t g ds e2
      | some (.bk, e2) => some (.nx, e2)
      | some (.rt s, e2) => some (.rt s, e2)
      | none => none
def mFor {Γ : Gam} (fi : Ei Γ) (t : Eg Γ) (g : Es Γ) : Es Γ := fun env =>
  match fi env with
  | none => none
  | some (ds, env1) => forL t g ds env1
theorem Go.refl (M : Addr → Prop) (H : Hp) : Go M H M H := ⟨fun _ _ _ h => h, fun _ n _ => n⟩
section
variable {Γ : Gam} {X : Cx} {A : List Nat} {tg iter : Expr} {body : List Stmt} {fi : Ei Γ} {t : Eg Γ} {g : Es Γ} {pos : Pos}
theorem sds_for (hp : PassesOwn (model X.prog X.w) X.A X.env X.xe) (hi : SdI Γ X tg iter fi) (hg : SdG Γ X A tg t) (hb : SdSs Γ X A body g) (hs : ∀ x, foldedSetIterable iter X.env x = pure x := by intro _; rfl) : SdS Γ X A (.For tg iter body [] pos) (mFor fi t g) := by
  intro hK σ env fl envF w D he E k
  refine wS.of (ps_for hp hK.calm pi_wI pg_wG pss_wSs hs) ?_
  unfold mFor at he
  cases g1 : fi env with
  | none => simp only [g1] at he; cases he
  | some q =>
    obtain ⟨ds, env1⟩ := q
    simp only [g1] at he
    refine hi hK σ env ds env1 w _ g1 E fun J w1 E1 p1 ok1 => ?_
    refine ⟨fun i m σ' H' => m = ds.length - i ∧ i ≤ ds.length ∧ ∃ env' w', w'.H = H' ∧ ER Γ w' σ' env' ∧ Step w w' ∧ ItOk Γ J ds w'.M w'.H ∧ Agree A σ σ' ∧ forL t g (ds.drop i) env' = some (fl, envF),
      ⟨ds.length, rfl, Nat.zero_le _, env1, w1, rfl, E1, p1, ok1, Agree.refl, he⟩, ?_⟩
    rintro i m σ2 H2 ⟨rfl, hi2, env2, w2, rfl, E2, p2, ok2, a2, he2⟩
    by_cases hlt : i < ds.length
    · refine .inr ?_
      have hd : ds[i]? = some ds[i] := List.getElem?_eq_getElem hlt
      rw [List.drop_eq_getElem_cons hlt] at he2
      unfold forL at he2
      obtain ⟨go, yl⟩ := ok2.go w2.M w2.H (Go.refl _ _) E2.dom i _ hd
      cases g2 : t ds[i] env2 with
      | none => simp only [g2] at he2; cases he2
      | some e1 =>
        simp only [g2] at he2
        refine ⟨go, fun σ' H' => ∃ env' w', w'.H = H' ∧ ER Γ w' σ' env' ∧ Step w w' ∧ ItOk Γ J ds w'.M w'.H ∧ Agree A σ σ' ∧ forL t g (ds.drop (i + 1)) env' = some (fl, envF), ?_, ?_⟩
        · rintro σ' H' ⟨env', w', r⟩
          exact ⟨ds.length - (i + 1), by omega, rfl, hlt, env', w', r⟩
        · intro x H3 y
          obtain ⟨ext, hx⟩ := yl x H3 y
          obtain ⟨E3, p3⟩ := E2.grow (Fr := fun _ => False) ext (fun _ z => z.elim)
          have p23 := p2.trans p3 E.dom
          have hx' : Dat Γ (fun a => w2.M a ∨ False) H3 x ds[i] := hx.go go_or
          refine hg hK σ2 env2 ds[i] e1 ⟨fun a => w2.M a ∨ False, w2.F, H3⟩ x _ g2 E3 hx' fun σ4 w4 E4 p4 a4 => ?_
          have p24 := p23.trans p4 E.dom
          have a24 := a2.trans a4
          have ok4 := (ok2.step (E2.go p3)).step (E3.go p4)
          cases g3 : g e1 with
          | none => simp only [g3] at he2; cases he2
          | some q =>
            obtain ⟨fl1, e2⟩ := q
            cases fl1 with
            | nx =>
              simp only [g3] at he2
              exact hb hK σ4 e1 _ e2 w4 _ g3 E4 fun σ5 w5 E5 p5 a5 => ⟨e2, w5, rfl, E5, p24.trans p5 E.dom, ok4.step (E4.go p5), a24.trans a5, he2⟩
            | ct =>
              simp only [g3] at he2
              exact hb hK σ4 e1 _ e2 w4 _ g3 E4 fun σ5 w5 E5 p5 a5 => ⟨e2, w5, rfl, E5, p24.trans p5 E.dom, ok4.step (E4.go p5), a24.trans a5, he2⟩
            | bk =>
              simp only [g3] at he2
              cases he2
              exact hb hK σ4 e1 _ _ w4 _ g3 E4 fun σ5 w5 E5 p5 a5 => k σ5 w5 E5 (p24.trans p5 E.dom) (a24.trans a5)
            | rt s =>
              simp only [g3] at he2
              cases he2
              exact hb hK σ4 e1 _ _ w4 _ g3 E4 fun v σ5 w5 Fr E5 T5 p5 f5 a5 => k v σ5 w5 Fr E5 T5 (p24.trans p5 E.dom) (f5.back p24) (a24.trans a5)
    · have ei : i = ds.length := by omega
      subst ei
      rw [List.drop_length] at he2
      cases he2
      exact .inl ⟨ok2.stop w2.M w2.H (Go.refl _ _), k σ2 w2 E2 p2 a2⟩
end

/-! ### comprehensions -/
def nonOwn {Γ : Gam} : Sl Γ → Bool
  | .none => true
  | .dat _ => true
  | .scr _ => true
  | _ => false
def wipeL {Γ : Gam} (env : Env Γ) : List Nat → Env Γ
  | [] => env
  | v :: vs => (wipeL env vs).set v .none
def wipeE {Γ : Gam} (vs : List Nat) (env : Env Γ) : Option (Env Γ) :=
  if (vs.all fun v => match env[v]? with | some s => nonOwn s | none => true) = true then some (wipeL env vs) else none
def backE {Γ : Gam} (env1 env : Env Γ) : List Nat → Env Γ
  | [] => env
  | v :: vs => (backE env1 env vs).set v ((env1[v]?).getD .none)
def compL {Γ : Gam} (vs : List Nat) (t : Eg Γ) (tc : Et Γ) (f : Ev Γ) : List D → Env Γ → Option (List D × Env Γ)
  | [], env => some ([], env)
  | d :: ds, env => match t d env with
    | none => none
    | some e1 => match tc e1 with
      | none => none
      | some (false, e2) => match wipeE vs e2 with
        | none => none
        | some e3 => compL vs t tc f ds e3
      | some (true, e2) => match f e2 with
        | some (.dat y, e3) => match wipeE vs e3 with
          | none => none
          | some e4 => (compL vs t tc f ds e4).map fun p => (y :: p.1, p.2)
        | _ => none
def mLc {Γ : Gam} (fi : Ei Γ) (vs : List Nat) (t : Eg Γ) (tc : Et Γ) (f : Ev Γ) : Ev Γ := fun env =>
  match fi env with
  | none => none
  | some (ds, env1) => if ds.length ≤ sizeLine then
      match wipeE vs env1 with
      | none => none
      | some e2 => match compL vs t tc f ds e2 with
        | none => none
        | some (ys, e3) => some (.lst ys, backE env1 e3 vs)
    else none
section
variable {Γ : Gam} {X : Cx}
theorem wipeL_len (env : Env Γ) : ∀ vs : List Nat, (wipeL env vs).length = env.length
  | [] => rfl
  | v :: vs => by unfold wipeL; rw [List.length_set, wipeL_len env vs]
theorem backE_len (env1 env : Env Γ) : ∀ vs : List Nat, (backE env1 env vs).length = env.length
  | [] => rfl
  | v :: vs => by unfold backE; rw [List.length_set, backE_len env1 env vs]
theorem wipeL_get (env : Env Γ) (j : Nat) : ∀ vs : List Nat, (wipeL env vs)[j]? = if j ∈ vs then (env[j]?).map (fun _ => Sl.none) else env[j]?
  | [] => by simp [wipeL]
  | v :: vs => by
    unfold wipeL
    rw [List.getElem?_set]
    by_cases e : v = j
    · subst e
      simp only [if_true, List.mem_cons_self, wipeL_len]
      by_cases hl : v < env.length
      · simp [hl]
      · simp [hl]
    · rw [if_neg e, wipeL_get env j vs]
      have : (j ∈ v :: vs) ↔ j ∈ vs := by simp [Ne.symm e]
      simp only [this]
theorem wipe_get (σ : St) (j : Nat) : ∀ vs : List Nat, (wipe σ vs)[j]? = if j ∈ vs then (σ[j]?).map (fun _ => none) else σ[j]?
  | [] => by simp [wipe]
  | v :: vs => by
    unfold wipe
    rw [List.getElem?_set]
    by_cases e : v = j
    · subst e
      simp only [if_true, List.mem_cons_self, wipe_length]
      by_cases hl : v < σ.length
      · simp [hl]
      · simp [hl]
    · rw [if_neg e, wipe_get σ j vs]
      have : (j ∈ v :: vs) ↔ j ∈ vs := by simp [Ne.symm e]
      simp only [this]
theorem backE_get (env1 env : Env Γ) (j : Nat) : ∀ vs : List Nat, (backE env1 env vs)[j]? = if j ∈ vs then (env[j]?).map (fun _ => (env1[j]?).getD .none) else env[j]?
  | [] => by simp [backE]
  | v :: vs => by
    unfold backE
    rw [List.getElem?_set]
    by_cases e : v = j
    · subst e
      simp only [if_true, List.mem_cons_self, backE_len]
      by_cases hl : v < env.length
      · simp [hl]
      · simp [hl]
    · rw [if_neg e, backE_get env1 env j vs]
      have : (j ∈ v :: vs) ↔ j ∈ vs := by simp [Ne.symm e]
      simp only [this]
theorem ER.noF {w : Wd} {σ : St} {env : Env Γ} (E : ER Γ w σ env) {j : Nat} (h : ∀ s, env[j]? = some s → nonOwn s = true) : ∀ a, ¬ w.F j a := fun a f => by
  cases e : env[j]? with
  | none => exact E.out j (List.getElem?_eq_none_iff.mp e) a f
  | some s =>
    have hs := h s e
    rcases E.slot j s e with ⟨_, z⟩ | ⟨v, _, r⟩
    · exact z a f
    · cases s with
      | none => exact r
      | dat d => exact r.2 a f
      | scr ns => exact r.2 a f
      | _ => cases hs
theorem wipeE_some {vs : List Nat} {env e : Env Γ} (h : wipeE vs env = some e) : e = wipeL env vs ∧ ∀ j ∈ vs, ∀ s, env[j]? = some s → nonOwn s = true := by
  unfold wipeE at h
  split at h
  · rename_i c
    cases h
    refine ⟨rfl, fun j hj s e => ?_⟩
    have q := List.all_eq_true.mp c j hj
    rw [e] at q
    exact q
  · cases h
theorem ER.wipe {w : Wd} {σ : St} {env e : Env Γ} {vs : List Nat} (E : ER Γ w σ env) (h : wipeE vs env = some e) : ER Γ w (wipe σ vs) e ∧ ∀ j ∈ vs, ∀ a, ¬ w.F j a := by
  obtain ⟨rfl, hn⟩ := wipeE_some h
  refine ⟨⟨by rw [wipeL_len, wipe_length]; exact E.len, fun j s hj => ?_, E.sub, E.dis, E.dom, fun j hj => E.out j (by rw [wipeL_len] at hj; exact hj)⟩, fun j hj => E.noF (hn j hj)⟩
  rw [wipeL_get] at hj
  split at hj
  · rename_i hv
    cases q : env[j]? with
    | none => rw [q] at hj; cases hj
    | some s' =>
      rw [q] at hj
      cases hj
      exact .inl ⟨rfl, E.noF (hn j hv)⟩
  · rename_i hv
    rcases E.slot j s hj with z | ⟨v, ev, r⟩
    · exact .inl z
    · exact .inr ⟨v, by rw [wipe_get, if_neg hv]; exact ev, r⟩
theorem ER.back {w1 w3 : Wd} {σ : St} {env1 e3 : Env Γ} {vs : List Nat} (E1 : ER Γ w1 σ env1) (hn : ∀ j ∈ vs, ∀ s, env1[j]? = some s → nonOwn s = true) (E3 : ER Γ w3 (L2.wipe σ vs) e3) (hF : ∀ j ∈ vs, ∀ a, ¬ w3.F j a) (g : Go w1.M w1.H w3.M w3.H) : ER Γ w3 σ (backE env1 e3 vs) := by
  have hl : e3.length = σ.length := by have := E3.len; rw [wipe_length] at this; exact this
  refine ⟨by rw [backE_len]; exact hl, fun j s hj => ?_, E3.sub, E3.dis, E3.dom, fun j hj => E3.out j (by rw [backE_len] at hj; exact hj)⟩
  rw [backE_get] at hj
  split at hj
  · rename_i hv
    cases q : e3[j]? with
    | none => rw [q] at hj; cases hj
    | some s' =>
      rw [q] at hj
      simp only [Option.map_some, Option.some.injEq] at hj
      subst hj
      cases q1 : env1[j]? with
      | none => exact .inl ⟨rfl, hF j hv⟩
      | some s1 =>
        show SltR Γ w3 σ j s1
        have ns := hn j hv s1 q1
        rcases E1.slot j s1 q1 with ⟨z1, z2⟩ | ⟨v, ev, r⟩
        · exact .inl ⟨z1, hF j hv⟩
        · refine .inr ⟨v, ev, ?_⟩
          cases s1 with
          | none => exact r
          | dat d => exact ⟨r.1.go g, hF j hv⟩
          | scr ns => obtain ⟨⟨a, e, h⟩, _⟩ := r; exact ⟨⟨a, e, h.go g⟩, hF j hv⟩
          | _ => cases ns
  · rename_i hv
    rcases E3.slot j s hj with z | ⟨v, ev, r⟩
    · exact .inl z
    · rw [wipe_get, if_neg hv] at ev
      exact .inr ⟨v, ev, r⟩
theorem agree_wipe {vs : List Nat} {σ σ' : St} (a : Agree vs (wipe σ vs) σ') : wipe σ' vs = wipe σ vs := by
  have hl := a.len
  rw [wipe_length] at hl
  apply List.ext_getElem?
  intro j
  rw [wipe_get, wipe_get]
  split
  · rename_i hv
    by_cases h : j < σ.length
    · rw [List.getElem?_eq_getElem h, List.getElem?_eq_getElem (by rw [hl]; exact h)]; rfl
    · rw [List.getElem?_eq_none_iff.mpr (by omega), List.getElem?_eq_none_iff.mpr (by omega)]
  · rename_i hv
    rw [a.get j hv, wipe_get, if_neg hv]
/-- an owned thing that no slot owns is written -/
theorem ER.write {w : Wd} {σ : St} {env : Env Γ} {p : Addr} {o : HO} (E : ER Γ w σ env) (m : w.M p) (f : ∀ i, ¬ w.F i p) : ER Γ ⟨w.M, w.F, upd w.H p o⟩ σ env ∧ Go w.M w.H w.M (upd w.H p o) := by
  have g : Go w.M w.H w.M (upd w.H p o) := ⟨fun a u n e => by rw [upd_ne (fun (z : a = p) => n (z ▸ m))]; exact e, fun _ n _ => n⟩
  refine ⟨⟨E.len, fun j s hj => ?_, E.sub, E.dis, fun a h => ?_, E.out⟩, g⟩
  · rcases E.slot j s hj with z | ⟨v, ev, r⟩
    · exact .inl z
    · exact .inr ⟨v, ev, r.go g fun a u fa e => by show upd w.H p o a = some u; rw [upd_ne (fun (z : a = p) => f j (z ▸ fa))]; exact e⟩
  · by_cases e : a = p
    · show upd w.H p o a ≠ none
      rw [e, upd_same]; simp
    · show upd w.H p o a ≠ none
      rw [upd_ne e]; exact E.dom a h
theorem Step.write {w w6 : Wd} {p : Addr} {o : HO} (s : Step w w6) (h : w.H p = none) : Step w ⟨w6.M, w6.F, upd w6.H p o⟩ :=
  ⟨fun a u n e => by show upd w6.H p o a = some u; rw [upd_ne (ne_of_none e h)]; exact s.keep a u n e, s.mu, s.src, s.own, fun a e => by
    show upd w6.H p o a ≠ none
    by_cases q : a = p
    · exact absurd (q ▸ h) e
    · rw [upd_ne q]; exact s.live a e⟩
def AllB (X : Cx) (scope : Scope) (P : Cx → Prop) : Prop := ∀ (s : Shared) (H : Hp) (C : Addr) (cl : List (Str × Addr)) (fp : List Addr), P (X.blk s H scope (compEnvC scope cl C X.env) fp)
theorem Gd.blk {scope : Scope} (g : Gd Γ X) : AllB X scope fun Y => Gd Γ Y := fun _ _ _ _ _ => ⟨g.k, g.calm, g.un, g.nd⟩
def bG (X : Cx) (scope : Scope) (tg : Expr) : TG := fun v σ H Q => AllB X scope fun Y => wG Y tg v σ H Q
def bE (X : Cx) (scope : Scope) (e : Expr) : TE := fun σ H Q => AllB X scope fun Y => wE Y e σ H Q
def bT (X : Cx) (scope : Scope) (e : Expr) : TT := fun σ H Q => AllB X scope fun Y => wT Y e σ H Q
inductive SdC (Γ : Gam) (X : Cx) (scope : Scope) : List Expr → TT → Et Γ → Prop
  | nil : SdC Γ X scope [] tYes (fun env => some (true, env))
  | one {c : Expr} {tc : Et Γ} : AllB X scope (fun Y => SdT Γ Y c tc) → SdC Γ X scope [c] (bT X scope c) tc
theorem SdC.run {scope : Scope} {ifs : List Expr} {tt : TT} {tc : Et Γ} (h : SdC Γ X scope ifs tt tc) (hK : Gd Γ X) {σ : St} {env env' : Env Γ} {b : Bool} {w : Wd} {Q : Bool → Hp → Prop} (he : tc env = some (b, env')) (E : ER Γ w σ env) (k : ∀ w', ER Γ w' σ env' → Step w w' → Q b w'.H) : tt σ w.H Q := by
  cases h with
  | nil => cases he; exact k w E (Step.refl w)
  | one hc => exact fun s H C cl fp => hc s H C cl fp (hK.blk s H C cl fp) σ env b env' w Q he E k
theorem SdC.pts {scope : Scope} {ifs : List Expr} {tt : TT} {tc : Et Γ} (h : SdC Γ X scope ifs tt tc) : AllB X scope fun Y => PTs Y ifs tt := fun s H C cl fp => by
  cases h with
  | nil => exact pts_nil
  | one hc => exact pts_one ⟨fun pins s' σ H' Q I q => q s H C cl fp pins s' I⟩
/-- J walks ds in every world that comes behind w by way of w1 -/
structure ItW (Γ : Gam) (J : It) (ds : List D) (w w1 : Wd) : Prop where
  go : ∀ w', Step w w' → Go w1.M w1.H w'.M w'.H → (∀ a, w'.M a → w'.H a ≠ none) → ∀ i d, ds[i]? = some d → J.go i w'.H ∧ ∀ x H2, J.yld i w'.H x H2 → (∀ a u, w'.H a = some u → H2 a = some u) ∧ Dat Γ w'.M H2 x d
  stop : ∀ w', Step w w' → Go w1.M w1.H w'.M w'.H → J.stop ds.length w'.H
theorem ItOk.w {J : It} {ds : List D} {w w1 : Wd} (h : ItOk Γ J ds w1.M w1.H) : ItW Γ J ds w w1 := ⟨fun w' _ g dom => h.go w'.M w'.H g dom, fun w' _ g => h.stop w'.M w'.H g⟩
theorem lc_runX {tg iter elt : Expr} {scope : Scope} {ifs : List Expr} {tt : TT} {tc : Et Γ} {fi : Ei Γ} {t : Eg Γ} {f : Ev Γ} {vs : List Nat} {σ : St} {env envF : Env Γ} {r : Sl Γ} {w : Wd} {Q : VK} (hK : Gd Γ X)
    (hi : ∀ ds env1, fi env = some (ds, env1) → ∀ R : It → Hp → Prop, (∀ J w1, ER Γ w1 σ env1 → Step w w1 → ItW Γ J ds w w1 → R J w1.H) → wI X tg iter σ w.H R) (hg : AllB X scope fun Y => SdG Γ Y vs tg t) (hc : SdC Γ X scope ifs tt tc) (hf : AllB X scope fun Y => SdE Γ Y elt f) (he : mLc fi vs t tc f env = some (r, envF)) (E : ER Γ w σ env)
    (k : ∀ v w' Fr, ER Γ w' σ envF → TR Γ w' v r Fr → Step w w' → Fresh w Fr → Q v w'.H) : tLc (wI X tg iter) (bG X scope tg) tt (bE X scope elt) vs σ w.H Q := by
  unfold mLc at he
  cases g1 : fi env with
  | none => simp only [g1] at he; cases he
  | some q =>
    obtain ⟨ds, env1⟩ := q
    simp only [g1] at he
    split at he
    · rename_i hlen
      cases g2 : wipeE vs env1 with
      | none => simp only [g2] at he; cases he
      | some e2 =>
        simp only [g2] at he
        cases g3 : compL vs t tc f ds e2 with
        | none => simp only [g3] at he; cases he
        | some q =>
          obtain ⟨ys, e3⟩ := q
          simp only [g3] at he
          cases he
          refine hi ds env1 g1 _ fun J w1 E1 p1 ok1 => ?_
          intro Dd hD
          have hDw : w.H Dd = none := by
            cases q : w.H Dd with
            | none => rfl
            | some u => exact absurd hD (p1.live Dd (by rw [q]; simp))
          obtain ⟨E1w, hF1⟩ := E1.wipe g2
          obtain ⟨E1g, p1g⟩ := E1w.grow (Fr := fun a => a = Dd) (H' := upd w1.H Dd (.lst [])) (upd_keep hD) (fun a z => by subst z; exact ⟨hD, by rw [upd_same]; simp⟩)
          have hn1 := (wipeE_some g2).2
          refine ⟨fun i m H' => m = ds.length - i ∧ i ≤ ds.length ∧ ∃ env' w' acc accD ys2, w'.H = H' ∧ ER Γ w' (L2.wipe σ vs) env' ∧ (∀ j ∈ vs, ∀ a, ¬ w'.F j a) ∧ Step w w' ∧ Go w1.M w1.H w'.M w'.H ∧ w'.H Dd = some (.lst acc) ∧ Dats Γ w'.M w'.H acc accD ∧ w'.M Dd ∧ (∀ j, ¬ w'.F j Dd) ∧ accD.length ≤ i ∧ compL vs t tc f (ds.drop i) env' = some (ys2, e3) ∧ ys = accD ++ ys2,
            ⟨ds.length, rfl, Nat.zero_le _, e2, ⟨fun a => w1.M a ∨ a = Dd, w1.F, upd w1.H Dd (.lst [])⟩, [], [], ys, rfl, E1g, hF1, p1.trans p1g E.dom, E1w.go p1g, upd_same, .nil, .inr rfl, fun j z => E1.dom Dd (E1.sub j Dd z) hD, Nat.zero_le _, g3, rfl⟩, ?_⟩
          rintro i m H2 ⟨rfl, hi2, env2, w2, acc, accD, ys2, rfl, E2, hF2, p2, go2, hD2, r2, m2, o2, l2, he2, ey⟩
          by_cases hlt : i < ds.length
          · refine .inr ?_
            have hd : ds[i]? = some ds[i] := List.getElem?_eq_getElem hlt
            rw [List.drop_eq_getElem_cons hlt] at he2
            unfold compL at he2
            obtain ⟨go, yl⟩ := ok1.go w2 p2 go2 E2.dom i _ hd
            cases g4 : t ds[i] env2 with
            | none => simp only [g4] at he2; cases he2
            | some e4 =>
              simp only [g4] at he2
              refine ⟨go, fun H' => ∃ env' w' acc accD ys2, w'.H = H' ∧ ER Γ w' (L2.wipe σ vs) env' ∧ (∀ j ∈ vs, ∀ a, ¬ w'.F j a) ∧ Step w w' ∧ Go w1.M w1.H w'.M w'.H ∧ w'.H Dd = some (.lst acc) ∧ Dats Γ w'.M w'.H acc accD ∧ w'.M Dd ∧ (∀ j, ¬ w'.F j Dd) ∧ accD.length ≤ i + 1 ∧ compL vs t tc f (ds.drop (i + 1)) env' = some (ys2, e3) ∧ ys = accD ++ ys2, ?_, ?_⟩
              · rintro H' ⟨env', w', rr⟩
                exact ⟨ds.length - (i + 1), by omega, rfl, hlt, env', w', rr⟩
              · intro x H3 y
                obtain ⟨ext, hx⟩ := yl x H3 y
                obtain ⟨E3, p3⟩ := E2.grow (Fr := fun _ => False) ext (fun _ z => z.elim)
                have hx' : Dat Γ (fun a => w2.M a ∨ False) H3 x ds[i] := hx.go go_or
                intro s5 H5 C5 cl5 fp5
                refine hg s5 H5 C5 cl5 fp5 (hK.blk s5 H5 C5 cl5 fp5) (L2.wipe σ vs) env2 ds[i] e4 ⟨fun a => w2.M a ∨ False, w2.F, H3⟩ x _ g4 E3 hx' fun σ4 w4 E4 p4 a4 => ?_
                have ew := agree_wipe a4
                refine ⟨ew, ?_⟩
                cases g5 : tc e4 with
                | none => simp only [g5] at he2; cases he2
                | some q =>
                  obtain ⟨b, e5⟩ := q
                  simp only [g5] at he2
                  refine hc.run hK g5 E4 fun w5 E5 p5 => ?_
                  have p25 : Step w2 w5 := (p3.trans p4 E2.dom).trans p5 E2.dom
                  cases b with
                  | false =>
                    rw [if_neg Bool.false_ne_true]
                    cases g6 : wipeE vs e5 with
                    | none => simp only [g6] at he2; cases he2
                    | some e6 =>
                      simp only [g6] at he2
                      obtain ⟨E6, hF6⟩ := E5.wipe g6
                      rw [ew] at E6
                      exact ⟨e6, w5, acc, accD, ys2, rfl, E6, hF6, p2.trans p25 E.dom, go2.trans (E2.go p25), p25.keep Dd _ o2 hD2, r2.go (E2.go p25), p25.mu Dd o2 m2, p25.off o2 (by rw [hD2]; simp), by omega, he2, ey⟩
                  | true =>
                    rw [if_pos rfl]
                    intro s6 H6 C6 cl6 fp6
                    simp only at he2
                    cases g6 : f e5 with
                    | none => simp only [g6] at he2; cases he2
                    | some q =>
                      obtain ⟨sy, e6⟩ := q
                      cases sy with
                      | dat y =>
                        simp only [g6] at he2
                        cases g7 : wipeE vs e6 with
                        | none => simp only [g7] at he2; cases he2
                        | some e7 =>
                          simp only [g7] at he2
                          cases g8 : compL vs t tc f (ds.drop (i + 1)) e7 with
                          | none => rw [g8] at he2; cases he2
                          | some q =>
                            obtain ⟨ys3, e8⟩ := q
                            rw [g8] at he2
                            cases he2
                            refine hf s6 H6 C6 cl6 fp6 (hK.blk s6 H6 C6 cl6 fp6) σ4 e5 _ e6 w5 _ g6 E5 fun v w6 Fr E6 T6 p6 f6 => ?_
                            have p26 := p25.trans p6 E2.dom
                            have o6 := p26.off o2 (by rw [hD2]; simp)
                            have m6 := p26.mu Dd o2 m2
                            obtain ⟨E7, hF7⟩ := E6.wipe g7
                            rw [ew] at E7
                            obtain ⟨E8, go8⟩ := E7.write (o := .lst (acc ++ [v])) m6 o6
                            have r6 := r2.go (E2.go p26)
                            refine ⟨acc, p26.keep Dd _ o2 hD2, by have := r2.length; omega, e7, ⟨w6.M, w6.F, upd w6.H Dd (.lst (acc ++ [v]))⟩, acc ++ [v], accD ++ [y], ys3, rfl, E8, hF7, (p2.trans p26 E.dom).write hDw, (go2.trans (E2.go p26)).trans go8, upd_same, (r6.append (.cons T6.rep.1 .nil)).go go8, m6, o6, by rw [List.length_append]; simp; omega, g8, by rw [ey]; simp⟩
                      | _ => simp only [g6] at he2; cases he2
          · have ei : i = ds.length := by omega
            subst ei
            rw [List.drop_length] at he2
            cases he2
            rw [List.append_nil] at ey
            subst ey
            refine .inl ⟨ok1.stop w2 p2 go2, ?_⟩
            exact k (.ref Dd) w2 (fun a => a = Dd) (E1.back hn1 E2 hF2 go2) ⟨⟨Dd, acc, rfl, hD2, r2, fun a => Iff.rfl⟩, fun a z => z ▸ m2, fun a j z => z ▸ o2 j⟩ p2 fun a z => .inr (z ▸ hDw)
    · cases he
theorem lc_run {tg iter elt : Expr} {scope : Scope} {ifs : List Expr} {tt : TT} {tc : Et Γ} {fi : Ei Γ} {t : Eg Γ} {f : Ev Γ} {vs : List Nat} {σ : St} {env envF : Env Γ} {r : Sl Γ} {w : Wd} {Q : VK} (hK : Gd Γ X)
    (hi : SdI Γ X tg iter fi) (hg : AllB X scope fun Y => SdG Γ Y vs tg t) (hc : SdC Γ X scope ifs tt tc) (hf : AllB X scope fun Y => SdE Γ Y elt f) (he : mLc fi vs t tc f env = some (r, envF)) (E : ER Γ w σ env)
    (k : ∀ v w' Fr, ER Γ w' σ envF → TR Γ w' v r Fr → Step w w' → Fresh w Fr → Q v w'.H) : tLc (wI X tg iter) (bG X scope tg) tt (bE X scope elt) vs σ w.H Q :=
  lc_runX hK (fun ds env1 g R k => hi hK σ env ds env1 w R g E fun J w1 E1 p1 ok => k J w1 E1 p1 ok.w) hg hc hf he E k
end
end G

/-! G10: comprehensions as expressions, lists that are changed -/
namespace G
open PySem L2
section
variable {Γ : Gam} {X : Cx} {A : List Nat}
theorem sd_lc {tg iter elt : Expr} {scope : Scope} {own : List (Str × Nat)} {ifs : List Expr} {tt : TT} {tc : Et Γ} {fi : Ei Γ} {t : Eg Γ} {f : Ev Γ} {pos : Pos} (ok : BlkOk X.N X.env.scope scope own)
    (hi : SdI Γ X tg iter fi) (hg : AllB X scope fun Y => SdG Γ Y (own.map (·.2)) tg t) (hc : SdC Γ X scope ifs tt tc) (hf : AllB X scope fun Y => SdE Γ Y elt f) (hs : ∀ x, foldedSetIterable iter X.env x = pure x := by intro _; rfl) :
    SdE Γ X (.ListComp elt [⟨tg, iter, ifs, 0⟩] scope pos) (mLc fi (own.map (·.2)) t tc f) :=
  fun hK σ env r env' w Q he E k => wE.of (pe_lc (te := bE X scope elt) (g := bG X scope tg) hK.calm hK.nd pi_wI ok (fun s H C cl fp => ⟨fun pins s' σ H' v u Q I r h => h s H C cl fp u pins s' r I⟩) hc.pts (fun s H C cl fp => ⟨fun pins s' σ H' Q I h => h s H C cl fp pins s' I⟩) hs) (lc_run hK hi hg hc hf he E k)
theorem sds_setLc (i : Nat) {y : Str} {py : Pos} {tg iter elt : Expr} {scope : Scope} {own : List (Str × Nat)} {ifs : List Expr} {tt : TT} {tc : Et Γ} {fi : Ei Γ} {t : Eg Γ} {f : Ev Γ} {pos spos : Pos} (hA : i ∈ A) (hy : X.N[i]? = some y) (hyl : X.env.scope.names.lookup y = some .local)
    (hsw : swapsWith (.ListComp elt [⟨tg, iter, ifs, 0⟩] scope pos) (some (.Name y py)) spos.line X.env = pure true) (ok : BlkOk X.N X.env.scope scope own)
    (hi : SdI Γ X tg iter fi) (hg : AllB X scope fun Y => SdG Γ Y (own.map (·.2)) tg t) (hc : SdC Γ X scope ifs tt tc) (hf : AllB X scope fun Y => SdE Γ Y elt f) (hs : ∀ x, foldedSetIterable iter X.env x = pure x := by intro _; rfl) :
    SdS Γ X A (.Assign [.Name y py] (.ListComp elt [⟨tg, iter, ifs, 0⟩] scope pos) spos) (mSet i (mLc fi (own.map (·.2)) t tc f)) := by
  intro hK σ env fl env' w D he E k
  refine wS.of (ps_setLc (te := bE X scope elt) (g := bG X scope tg) hK.calm hK.nd hy hyl hsw pi_wI ok (fun s H C cl fp => ⟨fun pins s' σ H' v u Q I r h => h s H C cl fp u pins s' r I⟩) hc.pts (fun s H C cl fp => ⟨fun pins s' σ H' Q I h => h s H C cl fp pins s' I⟩) hs) ?_
  unfold mSet at he
  cases g1 : mLc fi (own.map (·.2)) t tc f env with
  | none => simp only [g1] at he; cases he
  | some q =>
    obtain ⟨s, env1⟩ := q
    simp only [g1] at he
    split at he
    · rename_i hl
      cases he
      refine lc_run hK hi hg hc hf g1 E fun v w1 Fr E1 T1 p1 f1 => ?_
      exact k _ ⟨w1.M, fun j a => if j = i then Fr a else w1.F j a, w1.H⟩ (E1.set T1 hl) (p1.set f1) (Agree.set hA)
    · cases he

/-! ### lists that are changed -/
theorem ER.put {w : Wd} {σ : St} {env : Env Γ} {i : Nat} {ds ds' : List D} {p : Addr} {vs' : List V} (E : ER Γ w σ env) (h : env[i]? = some (.lst ds)) (hv : σ[i]? = some (some (.ref p))) (fp : ∀ a, w.F i a ↔ a = p) (r : Dats Γ w.M w.H vs' ds') :
    ER Γ ⟨w.M, w.F, upd w.H p (.lst vs')⟩ σ (env.set i (.lst ds')) ∧ Step w ⟨w.M, w.F, upd w.H p (.lst vs')⟩ := by
  have il : i < env.length := (List.getElem?_eq_some_iff.mp h).1
  have mp : w.M p := E.sub i p ((fp p).mpr rfl)
  have g : Go w.M w.H w.M (upd w.H p (.lst vs')) := ⟨fun a u n e => by rw [upd_ne (fun (z : a = p) => n (z ▸ mp))]; exact e, fun _ n _ => n⟩
  refine ⟨⟨by rw [List.length_set]; exact E.len, fun j s hj => ?_, E.sub, E.dis, fun a m => ?_, fun j hj => E.out j (by rw [List.length_set] at hj; exact hj)⟩,
    ⟨fun a u n e => by show upd w.H p (.lst vs') a = some u; rw [upd_ne (fun (z : a = p) => n i ((fp a).mpr z))]; exact e, fun _ _ m => m, fun _ m => .inl m, fun j _ f => .inl ⟨j, f⟩, fun a e => ?_⟩⟩
  · by_cases e : j = i
    · subst e
      rw [List.getElem?_set_self il] at hj
      cases hj
      exact .inr ⟨_, hv, p, vs', rfl, upd_same, r.go g, fp⟩
    · rw [List.getElem?_set_ne (Ne.symm e)] at hj
      rcases E.slot j s hj with z | ⟨v, ev, rv⟩
      · exact .inl z
      · refine .inr ⟨v, ev, rv.go g fun a u fa q => ?_⟩
        show upd w.H p (.lst vs') a = some u
        rw [upd_ne (fun (z : a = p) => e (E.dis j i a fa ((fp a).mpr z)))]
        exact q
  · show upd w.H p (.lst vs') a ≠ none
    by_cases e : a = p
    · rw [e, upd_same]; simp
    · rw [upd_ne e]; exact E.dom a m
  · show upd w.H p (.lst vs') a ≠ none
    by_cases e' : a = p
    · rw [e', upd_same]; simp
    · rw [upd_ne e']; exact e
/-- a method of a list by data: the list before, the arguments; the answer, the list behind -/
def MutOk (Γ : Gam) (r : V → List V → Hp → VK → Prop) (u : List D → List (Sl Γ) → Option (D × List D)) : Prop :=
  ∀ (M : Addr → Prop) (H : Hp) (p : Addr) (vs : List V) (ds : List D) (xs : List V) (ss : List (Sl Γ)) (res : D) (ds' : List D) (Q : VK), M p → H p = some (.lst vs) → Dats Γ M H vs ds → SRs Γ M H xs ss → u ds ss = some (res, ds') →
    (∀ y vs', Dats Γ M H vs' ds' → (∀ M' H', Go M H M' H' → Dat Γ M' H' y res) → Q y (upd H p (.lst vs'))) → r (.ref p) xs H Q
def mMut {Γ : Gam} (i : Nat) (u : List D → List (Sl Γ) → Option (D × List D)) (as : List (AE Γ)) : Ev Γ := fun env =>
  match env[i]? with
  | some (.lst _) => match evAs as env with
    | none => none
    | some (xs, env1) => match peeks xs env1, env1[i]? with
      | some ss, some (.lst ds) => (u ds ss).map fun q => (.dat q.1, env1.set i (.lst q.2))
      | _, _ => none
  | _ => none
theorem mut_run {r : V → List V → Hp → VK → Prop} {u : List D → List (Sl Γ) → Option (D × List D)} {i : Nat} {es : List Expr} {as : List (AE Γ)} {σ : St} {env env' : Env Γ} {s : Sl Γ} {w : Wd} {Q : VK} (hK : Gd Γ X) (hu : MutOk Γ r u) (ha : SdL Γ X es as) (he : mMut i u as env = some (s, env')) (E : ER Γ w σ env)
    (k : ∀ v w' Fr, ER Γ w' σ env' → TR Γ w' v s Fr → Step w w' → Fresh w Fr → Q v w'.H) : ∃ v, σ[i]? = some (some v) ∧ tyV X.K "list" v w.H ∧ wL X es σ w.H fun xs H2 => r v xs H2 Q := by
  unfold mMut at he
  split at he
  · rename_i ds0 g0
    obtain ⟨v, ev, p0, vs0, rfl, hp0, r0, n0⟩ := E.at (i := i) (s := .lst ds0) (by rw [g0]; rfl)
    refine ⟨_, ev, .inl ⟨rfl, vs0, SqL.of hp0⟩, ?_⟩
    cases g1 : evAs as env with
    | none => simp only [g1] at he; cases he
    | some q =>
      obtain ⟨xs, env1⟩ := q
      simp only [g1] at he
      split at he
      · rename_i ss ds g2 g3
        cases g4 : u ds ss with
        | none => rw [g4] at he; cases he
        | some q =>
          obtain ⟨res, ds'⟩ := q
          rw [g4] at he
          cases he
          refine sdl_run hK ha g1 E fun vs w1 Frs E1 A1 p1 f1 => ?_
          obtain ⟨v1, ev1, p, us, rfl, hp, rp, n⟩ := E1.at (i := i) (s := .lst ds) (by rw [g3]; rfl)
          have ep : p = p0 := by rw [ev] at ev1; cases ev1; rfl
          subst ep
          refine hu w1.M w1.H p us ds vs ss res ds' Q (E1.sub i p ((n p).mpr rfl)) hp rp (A1.peeks E1 g2) g4 fun y vs' r' hy => ?_
          obtain ⟨E2, p2⟩ := E1.put (ds' := ds') (vs' := vs') g3 ev n r'
          exact k y ⟨w1.M, w1.F, upd w1.H p (.lst vs')⟩ (fun _ => False) E2 (TR.dat (hy _ _ (E1.go p2))) (p1.trans p2 E.dom) fun _ z => z.elim
      · cases he
  · cases he
variable {e : Expr} {es : List Expr} {as : List (AE Γ)} {x name : Str} {npos apos cpos : Pos} {id : String}
/-- x.name(e, ..), x a local that owns a list -/
theorem sd_mut {r : V → List V → Hp → VK → Prop} {u : List D → List (Sl Γ) → Option (D × List D)} (i : Nat) (slot : Slot "list" name id) (hty : typeOf (.builtin id) = pure (.type "method_descriptor")) (rule : MtR X id r) (hu : MutOk Γ r u) (hN : X.N[i]? = some x) (hv : Vis X.env.scope x) (ha : SdL Γ X (e :: es) as)
    (hd : (x == ("__debug__" : Str)) = false := by decide) (hcd : (x == ("__classdict__" : Str)) = false := by decide)
    (hbase : attributeBase (.Name x npos) name X.env (eval (.Name x npos) X.env) = eval (.Name x npos) X.env := by rfl)
    (hfew : ((backTo cpos (starEach (e :: es) X.env)).all (fun x => !x.1) && (backToKw cpos (keywordEach [] X.env)).all (fun x => x.1.isSome) && decide ((e :: es).length + ([] : List Keyword).length + (if ([] : List Keyword).isEmpty then 0 else 1) < 30)) = true := by rfl)
    (hline : (apos.endLine == cpos.line) = true := by rfl) (hplain : (backTo cpos (starEach es X.env)).any (·.1) = false := by rfl) :
    SdE Γ X (.Call (.Attribute (.Name x npos) name apos) (e :: es) [] cpos) (mMut i u as) :=
  fun hK σ env s env' w Q he E k => wE.of (pe_bm PySem.F.plainAttrs_list slot hty rule (pe_var hN hv hd hcd) (pa_wL ha.ns) hbase hfew hline (ha.ns e List.mem_cons_self es) hplain) (mut_run hK hu ha he E k)
theorem sd_mut0 {r : V → List V → Hp → VK → Prop} {u : List D → List (Sl Γ) → Option (D × List D)} (i : Nat) (slot : Slot "list" name id) (hty : typeOf (.builtin id) = pure (.type "method_descriptor")) (rule : MtR X id r) (hu : MutOk Γ r u) (hN : X.N[i]? = some x) (hv : Vis X.env.scope x)
    (hd : (x == ("__debug__" : Str)) = false := by decide) (hcd : (x == ("__classdict__" : Str)) = false := by decide)
    (hbase : attributeBase (.Name x npos) name X.env (eval (.Name x npos) X.env) = eval (.Name x npos) X.env := by rfl) (hline : (apos.endLine == cpos.line) = true := by rfl) :
    SdE Γ X (.Call (.Attribute (.Name x npos) name apos) [] [] cpos) (mMut i u []) :=
  fun hK σ env s env' w Q he E k => wE.of (pe_bm0 PySem.F.plainAttrs_list slot hty rule (pe_var hN hv hd hcd) hbase hline) (mut_run hK hu .nil he E k)
def uAppend {Γ : Gam} (ds : List D) : List (Sl Γ) → Option (D × List D)
  | [.dat d] => if ds.length < sizeLine then some (.non, ds ++ [d]) else none
  | _ => none
theorem uAppend_ok : MutOk Γ rAppend uAppend := by
  intro M H p vs ds xs ss res ds' Q mp hp r hs hu k
  unfold uAppend at hu
  split at hu
  · rename_i d
    split at hu
    · rename_i hl
      cases hu
      cases hs with
      | cons h1 r1 =>
        cases r1
        exact ⟨p, vs, _, rfl, rfl, hp, by rw [r.length]; exact hl, k _ _ (r.append (.cons h1.1 .nil)) fun _ _ _ => .non⟩
    · cases hu
  · cases hu
def uPop {Γ : Gam} (ds : List D) : List (Sl Γ) → Option (D × List D)
  | [] => (ds[ds.length - 1]?).map fun d => (d, ds.dropLast)
  | [s] => match asInt s with
    | some i => if 0 ≤ i ∧ i < 2 ^ 62 then (ds[i.toNat]?).map fun d => (d, ds.eraseIdx i.toNat) else none
    | none => none
  | _ => none
theorem dropLast_dats {M : Addr → Prop} {H : Hp} {vs : List V} {ds : List D} (r : Dats Γ M H vs ds) : Dats Γ M H vs.dropLast ds.dropLast := by
  rw [List.dropLast_eq_take, List.dropLast_eq_take, r.length]
  exact r.take _
theorem seqIndex_nat {i : Int} {n : Nat} (h0 : 0 ≤ i) (h1 : i.toNat < n) : seqIndex? i n = some i.toNat := by
  have q : ixN n i = some i.toNat := by
    unfold ixN
    rw [if_pos h0, if_pos (by omega)]
  exact (ixN_seq q).1
theorem uPop_ok : MutOk Γ (fun x xs H Q => rPop x xs H Q ∨ rPopAt x xs H Q) uPop := by
  intro M H p vs ds xs ss res ds' Q mp hp r hs hu k
  unfold uPop at hu
  split at hu
  · cases hs
    cases g : ds[ds.length - 1]? with
    | none => rw [g] at hu; cases hu
    | some d =>
      rw [g] at hu
      cases hu
      obtain ⟨v, ev, hv⟩ := r.get g
      exact .inl ⟨p, vs, v, rfl, rfl, hp, by rw [r.length]; exact ev, k _ _ (dropLast_dats r) fun _ _ g => hv.go g⟩
  · rename_i s
    split at hu
    · rename_i i gi
      split at hu
      · rename_i hi
        cases g : ds[i.toNat]? with
        | none => rw [g] at hu; cases hu
        | some d =>
          rw [g] at hu
          cases hu
          cases hs with
          | cons h1 r1 =>
            cases r1
            cases h1.int (asInt_some gi)
            obtain ⟨v, ev, hv⟩ := r.get g
            have hl := (List.getElem?_eq_some_iff.mp ev).1
            exact .inr ⟨p, vs, i, i.toNat, v, rfl, rfl, hp, by omega, by omega, seqIndex_nat hi.1 hl, ev, k _ _ (r.eraseIdx _) fun _ _ g => hv.go g⟩
      · cases hu
    · cases hu
  · cases hu
theorem mt_popAll : MtR X "list.pop" (fun x xs H Q => rPop x xs H Q ∨ rPopAt x xs H Q) := MtR.or mt_pop mt_popAt
def uReverse {Γ : Gam} (ds : List D) : List (Sl Γ) → Option (D × List D)
  | [] => some (.non, ds.reverse)
  | _ => none
theorem uReverse_ok : MutOk Γ rReverse uReverse := by
  intro M H p vs ds xs ss res ds' Q mp hp r hs hu k
  unfold uReverse at hu
  split at hu
  · cases hu; cases hs; exact ⟨p, vs, rfl, rfl, hp, k _ _ r.reverse fun _ _ _ => .non⟩
  · cases hu
def uClear {Γ : Gam} (ds : List D) : List (Sl Γ) → Option (D × List D)
  | [] => some (.non, [])
  | _ => none
theorem uClear_ok : MutOk Γ rClear uClear := by
  intro M H p vs ds xs ss res ds' Q mp hp r hs hu k
  unfold uClear at hu
  split at hu
  · cases hu; cases hs; exact ⟨p, vs, rfl, rfl, hp, k _ _ .nil fun _ _ _ => .non⟩
  · cases hu
def uExtend {Γ : Gam} (ds : List D) : List (Sl Γ) → Option (D × List D)
  | [.dat (.lst es)] => if ds.length + es.length ≤ sizeLine then some (.non, ds ++ es) else none
  | _ => none
theorem uExtend_ok : MutOk Γ rExtend uExtend := by
  intro M H p vs ds xs ss res ds' Q mp hp r hs hu k
  unfold uExtend at hu
  split at hu
  · rename_i es
    split at hu
    · rename_i hl
      cases hu
      cases hs with
      | cons h1 r1 =>
        cases r1
        obtain ⟨q, ws, rfl, hq, r'⟩ := h1.lstW (ds := es) rfl (fun _ z => by cases z)
        exact ⟨p, q, vs, ws, rfl, rfl, hp, hq, by rw [r.length, r'.length]; exact hl, k _ _ (r.append r') fun _ _ _ => .non⟩
    · cases hu
  · cases hu
/-- x[k] = e, x a local that owns a list -/
def mSetIx {Γ : Gam} (i : Nat) (fe fk : Ev Γ) : Es Γ := fun env =>
  match fe env with
  | some (.dat d, env1) => match env1[i]? with
    | some (.lst _) => match fk env1 with
      | some (.dat (.int k), env2) => match env2[i]? with
        | some (.lst ds) => (ixN ds.length k).map fun j => (.nx, env2.set i (.lst (ds.set j d)))
        | _ => none
      | _ => none
    | _ => none
  | _ => none
theorem sds_setIx (i : Nat) {ke : Expr} {fe fk : Ev Γ} {tpos pos : Pos} (hN : X.N[i]? = some x) (hv : Vis X.env.scope x) (he' : SdE Γ X e fe) (hk : SdE Γ X ke fk) (hd : (x == ("__debug__" : Str)) = false := by decide) (hcd : (x == ("__classdict__" : Str)) = false := by decide)
    (ha : ∀ v, assign (.Subscript (.Name x npos) ke tpos) X.env v = (do
      let ov ← holding [v] (eval (.Name x npos) X.env)
      let iv ← holding [v, ov] (eval ke X.env)
      standAt tpos
      holding [v, ov, iv] (setItem ov iv v)
      release [v, ov, iv] []) := by intro _; rfl) (hs : swapsWithSole [.Subscript (.Name x npos) ke tpos] e pos.line X.env = pure false := by rfl) (hw : swappedStores [.Subscript (.Name x npos) ke tpos] e X.env = pure none := by rfl)
    (h1 : (assignEach [.Subscript (.Name x npos) ke tpos] X.env).map (·.2) = [assign (.Subscript (.Name x npos) ke tpos) X.env] := by rfl) : SdS Γ X A (.Assign [.Subscript (.Name x npos) ke tpos] e pos) (mSetIx i fe fk) := by
  intro hK σ env fl env' w D he E k
  refine wS.of (ps_asg pe_wE (pg_sub (pe_var hN hv hd hcd) pe_wE set_list ha) hs hw h1) ?_
  unfold mSetIx at he
  split at he
  · rename_i d env1 g1
    split at he
    · rename_i ds0 g2
      split at he
      · rename_i kk env2 g3
        split at he
        · rename_i ds g4
          cases g5 : ixN ds.length kk with
          | none => rw [g5] at he; cases he
          | some j =>
            rw [g5] at he
            cases he
            refine he' hK σ env _ _ w _ g1 E fun v w1 Fr E1 T1 p1 f1 => ?_
            obtain ⟨v0, ev0, _⟩ := E1.at (i := i) (s := .lst ds0) (by rw [g2]; rfl)
            refine ⟨v0, ev0, ?_⟩
            refine hk hK σ env1 _ _ w1 _ g3 E1 fun u w2 Fr2 E2 T2 p2 f2 => ?_
            obtain ⟨v2, ev2, p, us, rfl, hp, rp, n⟩ := E2.at (i := i) (s := .lst ds) (by rw [g4]; rfl)
            rw [ev0] at ev2
            cases ev2
            cases T2.rep.int rfl
            have hv1 : Dat Γ w2.M w2.H v d := T1.rep.1.go (E1.go p2)
            refine ⟨p, us, kk, j, rfl, rfl, hp, by rw [rp.length]; exact g5, ?_⟩
            obtain ⟨E3, p3⟩ := E2.put (ds' := ds.set j d) (vs' := us.set j v) g4 ev0 n (rp.set hv1 j)
            exact k σ ⟨w2.M, w2.F, upd w2.H p (.lst (us.set j v))⟩ E3 ((p1.trans p2 E.dom).trans p3 E.dom) Agree.refl
        · cases he
      · cases he
    · cases he
  · cases he
/-- return x, x a local: what x owns goes out -/
def mRetMv {Γ : Gam} (i : Nat) : Es Γ := fun env =>
  match env[i]? with
  | some .none => none
  | some s => some (.rt s, env.set i .none)
  | none => none
theorem sds_retMv (i : Nat) {pos : Pos} (hN : X.N[i]? = some x := by rfl) (hv : Vis X.env.scope x := by first | exact Or.inl rfl | exact Or.inr (Or.inl rfl) | exact Or.inr (Or.inr rfl)) (hd : (x == ("__debug__" : Str)) = false := by decide) (hcd : (x == ("__classdict__" : Str)) = false := by decide) : SdS Γ X A (.Return (some (.Name x npos)) pos) (mRetMv i) := by
  intro hK σ env fl env' w D he E k
  refine wS.of (ps_ret (pe_var hN hv hd hcd)) ?_
  unfold mRetMv at he
  split at he
  · cases he
  · rename_i s hs g
    cases he
    obtain ⟨v, ev, rv⟩ := E.at (i := i) (s := s) (by
      rw [g]
      cases s with
      | none => exact absurd rfl hs
      | _ => rfl)
    have il : i < env.length := (List.getElem?_eq_some_iff.mp g).1
    refine ⟨v, ev, ?_⟩
    refine k v σ ⟨w.M, fun j a => w.F j a ∧ j ≠ i, w.H⟩ (w.F i) ⟨by rw [List.length_set]; exact E.len, fun j t hj => ?_, fun j a f => E.sub j a f.1, fun j l a f f' => E.dis j l a f.1 f'.1, E.dom, fun j hj a f => E.out j (by rw [List.length_set] at hj; exact hj) a f.1⟩
      ⟨rv, fun a f => E.sub i a f, fun a j f z => z.2 (E.dis j i a z.1 f)⟩ ⟨fun _ _ _ q => q, fun _ _ m => m, fun _ m => .inl m, fun j _ f => .inl ⟨j, f.1⟩, fun _ q => q⟩ (fun a f => .inl ⟨i, f⟩) Agree.refl
    by_cases e : j = i
    · subst e
      rw [List.getElem?_set_self il] at hj
      cases hj
      exact .inl ⟨rfl, fun a z => z.2 rfl⟩
    · rw [List.getElem?_set_ne (Ne.symm e)] at hj
      have ef : (fun a => w.F j a ∧ j ≠ i) = w.F j := by funext a; exact propext ⟨fun z => z.1, fun z => ⟨z, e⟩⟩
      rcases E.slot j t hj with ⟨z1, z2⟩ | ⟨u, eu, ru⟩
      · exact .inl ⟨z1, fun a f => z2 a f.1⟩
      · exact .inr ⟨u, eu, ru.to (Go.refl _ _) ef⟩
  · cases he
end
end G

/-! G11: defs and their calls -/
namespace G
open PySem L2

abbrev Fn (Γ : Gam) := List (Sl Γ) → Option (Sl Γ × List (Sl Γ))
/-- a def's promise by data: the arguments before, the answer, the arguments behind -/
def spG (Γ : Gam) (np : Nat) (g : Fn Γ) : Sp := fun vs H Q _ => ∃ (args : List (Sl Γ)) (r : Sl Γ) (args' : List (Sl Γ)) (w : Wd), g args = some (r, args') ∧ args.length = np ∧ w.H = H ∧ ER Γ w (vs.map some) args ∧
  ∀ v w' Fr, ER Γ w' (vs.map some) args' → TR Γ w' v r Fr → Step w w' → Fresh w Fr → Q v w'.H
def mFun {Γ : Gam} (np loc : Nat) (A : List Nat) (body : Es Γ) : Fn Γ := fun args =>
  if args.length = np ∧ ((A.filter (· < np)).all fun i => match args[i]? with | some s => nonOwn s | none => true) = true then
    match body (args ++ List.replicate loc .none) with
    | some (.rt s, env') => some (s, backE args (env'.take np) (A.filter (· < np)))
    | some (.nx, env') => some (.dat .non, backE args (env'.take np) (A.filter (· < np)))
    | _ => none
  else none
section
variable {Γ : Gam}
theorem ER.extend {w : Wd} {vs : List V} {args : List (Sl Γ)} (E : ER Γ w (vs.map some) args) (n : Nat) : ER Γ w (vs.map some ++ List.replicate n none) (args ++ List.replicate n .none) := by
  have hl : args.length = vs.length := by have := E.len; rw [List.length_map] at this; exact this
  refine ⟨by simp [hl], fun i s h => ?_, E.sub, E.dis, E.dom, fun i hi => E.out i (by rw [List.length_append] at hi; omega)⟩
  by_cases hi : i < args.length
  · rw [List.getElem?_append_left hi] at h
    rcases E.slot i s h with z | ⟨v, ev, r⟩
    · exact .inl z
    · exact .inr ⟨v, by rw [List.getElem?_append_left (by rw [List.length_map]; omega)]; exact ev, r⟩
  · rw [List.getElem?_append_right (by omega)] at h
    have hs : s = .none := by
      have := List.getElem?_replicate (n := n) (a := (Sl.none : Sl Γ)) (i := i - args.length)
      rw [this] at h
      split at h
      · cases h; rfl
      · cases h
    exact .inl ⟨hs, E.out i (by omega)⟩
theorem ER.cut {w w' : Wd} {vs : List V} {args env' : List (Sl Γ)} {σ' : St} {A : List Nat} {n : Nat} (E : ER Γ w (vs.map some) args) (E' : ER Γ w' σ' env') (p : Step w w') (a : Agree A (vs.map some ++ List.replicate n none) σ')
    (hA : ((A.filter (· < args.length)).all fun i => match args[i]? with | some s => nonOwn s | none => true) = true) :
    ER Γ ⟨w'.M, fun i x => i < args.length ∧ i ∉ A ∧ w'.F i x, w'.H⟩ (vs.map some) (backE args (env'.take args.length) (A.filter (· < args.length))) := by
  have hl : args.length = vs.length := by have := E.len; rw [List.length_map] at this; exact this
  have hl' : args.length ≤ env'.length := by
    have h1 := E'.len
    have h2 := a.len
    rw [List.length_append, List.length_map] at h2
    omega
  have lb : (backE args (env'.take args.length) (A.filter (· < args.length))).length = args.length := by
    rw [backE_len, List.length_take]; omega
  refine ⟨by rw [lb, List.length_map]; exact hl, fun i s h => ?_, fun i x f => E'.sub i x f.2.2, fun i j x f f' => E'.dis i j x f.2.2 f'.2.2, E'.dom, fun i hi x f => ?_⟩
  · have hi : i < args.length := by rw [← lb]; exact (List.getElem?_eq_some_iff.mp h).1
    rw [backE_get] at h
    by_cases hiA : i ∈ A
    · rw [if_pos (List.mem_filter.mpr ⟨hiA, by simpa using hi⟩)] at h
      rw [List.getElem?_take_of_lt hi] at h
      have hs : s = args[i] := by
        rw [List.getElem?_eq_getElem hi] at h
        cases q : env'[i]? with
        | none => rw [q] at h; cases h
        | some t => rw [q] at h; exact (Option.some.inj h).symm
      have no : nonOwn args[i] = true := by
        have := List.all_eq_true.mp hA i (List.mem_filter.mpr ⟨hiA, by simpa using hi⟩)
        rw [List.getElem?_eq_getElem hi] at this
        exact this
      subst hs
      have nF : ∀ x, ¬ (i < args.length ∧ i ∉ A ∧ w'.F i x) := fun x f => f.2.1 hiA
      rcases E.slot i _ (List.getElem?_eq_getElem hi) with ⟨z1, z2⟩ | ⟨v, ev, r⟩
      · exact .inl ⟨z1, nF⟩
      · refine .inr ⟨v, ev, ?_⟩
        have g := E.go p
        generalize args[i] = s at no r
        cases s with
        | none => exact r
        | dat d => exact ⟨r.1.go g, nF⟩
        | scr ns => obtain ⟨⟨b, e, h⟩, _⟩ := r; exact ⟨⟨b, e, h.go g⟩, nF⟩
        | _ => cases no
    · rw [if_neg (fun z => hiA (List.mem_filter.mp z).1), List.getElem?_take_of_lt hi] at h
      have ef : (fun x => i < args.length ∧ i ∉ A ∧ w'.F i x) = w'.F i := by funext x; exact propext ⟨fun z => z.2.2, fun z => ⟨hi, hiA, z⟩⟩
      rcases E'.slot i s h with ⟨z1, z2⟩ | ⟨v, ev, r⟩
      · exact .inl ⟨z1, fun x f => z2 x f.2.2⟩
      · rw [a.get i hiA, List.getElem?_append_left (by rw [List.length_map]; omega)] at ev
        exact .inr ⟨v, ev, r.to (Go.refl _ _) ef⟩
  · rw [lb] at hi
    exact absurd f.1 (by omega)
theorem Step.cut {w w' : Wd} {P : Nat → Prop} (p : Step w w') : Step w ⟨w'.M, fun i x => P i ∧ w'.F i x, w'.H⟩ := ⟨p.keep, p.mu, p.src, fun i a f => p.own i a f.2, p.live⟩
/-- a def of the text keeps its promise by data, by its body's derivation -/
theorem fn_ok {P : Program} {w : World} {mg : Str → Option Value} {base : Heap} {x qual : Str} {st : Stmt} {f : Addr} {fd : FuncData} {N ps : List Str} {k : Nat} {A : List Nat} {body : Es Γ} (F : Fun Γ.K x qual st f fd) (S : FnScope N ps (defScope st))
    (hb : ∀ (cdv : Value) (Ar : Around) (outer : List PySem.Env) (s : Shared) (H : Hp) (E : XK), Room k (Ar.deeper (PyProof.Rows.envOfC qual (defScope st) s.heap.objs.size f cdv)) → SdSs Γ (cxOf CX0 P w Γ.K mg base N qual (defScope st) f cdv Ar outer s H E).nox A (defBody st) body) :
    FnOk P w Γ.K mg base CX0 (k + 1) f fd ps (spG Γ ps.length (mFun ps.length (N.length - ps.length) A body)) := by
  refine F.ok S (fun vs H Q E h => ?_) (fun cdv Ar outer s H vs Q E hr h => ?_)
  · obtain ⟨args, r, args', w, _, hl, _, Er, _⟩ := h
    have := Er.len
    rw [List.length_map] at this
    omega
  · obtain ⟨args, r, args', w1, hg, hl, rfl, Er, k1⟩ := h
    have hlv : vs.length = ps.length := by have := Er.len; rw [List.length_map] at this; omega
    unfold mFun at hg
    split at hg
    · rename_i hc
      refine ⟨_, pss_wSs, ?_⟩
      have es : L2.start N vs = vs.map some ++ List.replicate (N.length - ps.length) none := by unfold L2.start; rw [hlv]
      have Gx : Gd Γ (cxOf CX0 P w Γ.K mg base N qual (defScope st) f cdv Ar outer s w1.H E).nox := ⟨rfl, rfl, by have := hr.un; show (Ar.deeper (PyProof.Rows.envOfC qual (defScope st) s.heap.objs.size f cdv)).units + 65 < cLine; omega, S.nd⟩
      have E0 := Er.extend (N.length - ps.length)
      rw [es]
      split at hg
      · rename_i s1 env' g1
        cases hg
        refine hb cdv Ar outer s w1.H E hr Gx _ _ _ _ w1 _ g1 E0 fun v σ' w' Fr E' T' p' f' a' => ?_
        have hc2 := hc.2
        rw [← hl] at hc2
        have E2 := Er.cut E' p' a' hc2
        exact k1 v ⟨w'.M, fun i x => i < args.length ∧ i ∉ A ∧ w'.F i x, w'.H⟩ Fr (by rw [← hl]; exact E2) ⟨T'.rep, T'.sub, fun a i z q => T'.off a i z q.2.2⟩ ⟨p'.keep, p'.mu, p'.src, fun i a q => p'.own i a q.2.2, p'.live⟩ f'
      · rename_i env' g1
        cases hg
        refine hb cdv Ar outer s w1.H E hr Gx _ _ _ _ w1 _ g1 E0 fun σ' w' E' p' a' => ?_
        have hc2 := hc.2
        rw [← hl] at hc2
        have E2 := Er.cut E' p' a' hc2
        exact k1 .non ⟨w'.M, fun i x => i < args.length ∧ i ∉ A ∧ w'.F i x, w'.H⟩ (fun _ => False) (by rw [← hl]; exact E2) (TR.dat .non) ⟨p'.keep, p'.mu, p'.src, fun i a q => p'.own i a q.2.2, p'.live⟩ fun _ z => z.elim
      · cases hg
    · cases hg
end
end G

/-! G12: calls -/
namespace G
open PySem L2

def takeA {Γ : Gam} : List (Ag Γ) → Env Γ → Option (List (Sl Γ) × Env Γ × List (Option Nat))
  | [], env => some ([], env, [])
  | .val s :: xs, env => (takeA xs env).map fun q => (s :: q.1, q.2.1, none :: q.2.2)
  | .brw i :: xs, env => match got env[i]? with
    | none => none
    | some s => if nonOwn s = true then (takeA xs env).map fun q => (s :: q.1, q.2.1, none :: q.2.2)
      else (takeA xs (env.set i .none)).map fun q => (s :: q.1, q.2.1, some i :: q.2.2)
def putA {Γ : Gam} : List (Option Nat) → List (Sl Γ) → Env Γ → Env Γ
  | some i :: bs, s :: ss, env => (putA bs ss env).set i s
  | none :: bs, _ :: ss, env => putA bs ss env
  | _, _, env => env
def mCall {Γ : Gam} (np : Nat) (g : Fn Γ) (as : List (AE Γ)) : Ev Γ := fun env =>
  match evAs as env with
  | none => none
  | some (xs, env1) => match takeA xs env1 with
    | none => none
    | some (args, env2, bs) => if args.length = np then
        match g args with
        | none => none
        | some (r, args') => some (r, putA bs args' env2)
      else none
section
variable {Γ : Gam} {X : Cx} {σ : St}
theorem ER.moved {w : Wd} {env : Env Γ} (E : ER Γ w σ env) (i : Nat) : ER Γ ⟨w.M, fun j a => w.F j a ∧ j ≠ i, w.H⟩ σ (env.set i .none) := by
  refine ⟨by rw [List.length_set]; exact E.len, fun j t hj => ?_, fun j a f => E.sub j a f.1, fun j l a f f' => E.dis j l a f.1 f'.1, E.dom, fun j hj a f => E.out j (by rw [List.length_set] at hj; exact hj) a f.1⟩
  by_cases e : j = i
  · subst e
    by_cases il : j < env.length
    · rw [List.getElem?_set_self il] at hj
      cases hj
      exact .inl ⟨rfl, fun a z => z.2 rfl⟩
    · rw [List.getElem?_eq_none_iff.mpr (by rw [List.length_set]; omega)] at hj
      cases hj
  · rw [List.getElem?_set_ne (Ne.symm e)] at hj
    have ef : (fun a => w.F j a ∧ j ≠ i) = w.F j := by funext a; exact propext ⟨fun z => z.1, fun z => ⟨z, e⟩⟩
    rcases E.slot j t hj with ⟨z1, z2⟩ | ⟨u, eu, ru⟩
    · exact .inl ⟨z1, fun a f => z2 a f.1⟩
    · exact .inr ⟨u, eu, ru.to (Go.refl _ _) ef⟩
theorem SR.none_own {M : Addr → Prop} {H : Hp} {v : V} {s : Sl Γ} {Fr : Addr → Prop} (h : SR Γ M H v s Fr) (n : nonOwn s = true) : ∀ a, ¬ Fr a := by
  cases s with
  | none => exact h.elim
  | dat d => exact h.2
  | scr ns => exact h.2
  | _ => cases n
/-- one more argument in front -/
theorem ER.consArg {w : Wd} {F : Nat → Addr → Prop} {vs : List V} {args : List (Sl Γ)} {v : V} {s : Sl Γ} {Fr : Addr → Prop} (E : ER Γ ⟨w.M, F, w.H⟩ (vs.map some) args) (r : SR Γ w.M w.H v s Fr) (sub : ∀ a, Fr a → w.M a) (dis : ∀ a j, Fr a → ¬ F j a) :
    ER Γ ⟨w.M, fun j a => match j with | 0 => Fr a | j + 1 => F j a, w.H⟩ ((v :: vs).map some) (s :: args) := by
  refine ⟨by have := E.len; simp at this ⊢; exact this, fun j t hj => ?_, fun j a f => ?_, fun j l a f f' => ?_, E.dom, fun j hj a f => ?_⟩
  · cases j with
    | zero => cases hj; exact .inr ⟨v, rfl, r⟩
    | succ j =>
      rcases E.slot j t (by simpa using hj) with z | ⟨u, eu, ru⟩
      · exact .inl z
      · exact .inr ⟨u, by simpa using eu, ru⟩
  · cases j with
    | zero => exact sub a f
    | succ j => exact E.sub j a f
  · cases j with
    | zero =>
      cases l with
      | zero => rfl
      | succ l => exact absurd f' (dis a l f)
    | succ j =>
      cases l with
      | zero => exact absurd f (dis a j f')
      | succ l => rw [E.dis j l a f f']
  · cases j with
    | zero => simp at hj
    | succ j => exact E.out j (by simpa using hj) a f
theorem ER.same {w : Wd} {F F' : Nat → Addr → Prop} {env : Env Γ} (E : ER Γ ⟨w.M, F, w.H⟩ σ env) (e : ∀ j, F' j = F j) : ER Γ ⟨w.M, F', w.H⟩ σ env := by
  have : F' = F := funext e
  rw [this]
  exact E
theorem ARs.moved {w : Wd} (l : Nat) : ∀ {vs : List V} {xs : List (Ag Γ)} {Frs : List (Addr → Prop)}, ARs Γ w σ vs xs Frs → ARs Γ ⟨w.M, fun j a => w.F j a ∧ j ≠ l, w.H⟩ σ vs xs Frs
  | _, _, _, .nil => .nil
  | _, _, _, .cons (a := a) h d r => .cons (by
      cases a with
      | brw i => exact h
      | val s => exact ⟨h.rep, h.sub, fun a i f z => h.off a i f z.1⟩) d (ARs.moved l r)
theorem ARs.offs {w : Wd} : ∀ {vs : List V} {xs : List (Ag Γ)} {Frs : List (Addr → Prop)}, ARs Γ w σ vs xs Frs → ∀ G ∈ Frs, ∀ a, G a → ∀ i, ¬ w.F i a
  | _, _, _, .nil, G, hG => nomatch hG
  | _, _, _, .cons (a := x) h d r, G, hG => fun a ga i => by
    rcases List.mem_cons.mp hG with z | z
    · subst z
      cases x with
      | brw j => exact absurd ga (h.2 a)
      | val s => exact h.off a i ga
    · exact ARs.offs r G z a ga i
theorem take_ok : ∀ {xs : List (Ag Γ)} {vs : List V} {Frs : List (Addr → Prop)} {env : Env Γ} {w : Wd} {args : List (Sl Γ)} {env2 : Env Γ} {bs : List (Option Nat)}, ER Γ w σ env → ARs Γ w σ vs xs Frs → takeA xs env = some (args, env2, bs) →
    ∃ (Fc F2 : Nat → Addr → Prop), ER Γ ⟨w.M, Fc, w.H⟩ (vs.map some) args ∧ ER Γ ⟨w.M, F2, w.H⟩ σ env2 ∧ (∀ j a, Fc j a → (∃ i, w.F i a) ∨ ∃ G ∈ Frs, G a) ∧ (∀ i a, F2 i a → w.F i a) ∧ (∀ j i a, Fc j a → ¬ F2 i a) ∧
      bs.length = vs.length ∧ (∀ (j i : Nat), bs[j]? = some (some i) → ∃ v, vs[j]? = some v ∧ σ[i]? = some (some v) ∧ i < env2.length)
  | [], vs, Frs, env, w, args, env2, bs, E, A, h => by
    cases A
    cases h
    refine ⟨fun _ _ => False, w.F, ⟨rfl, fun i s h => by simp at h, fun _ _ f => f.elim, fun _ _ _ f => f.elim, E.dom, fun _ _ _ f => f⟩, E, fun _ _ f => f.elim, fun _ _ f => f, fun _ _ _ f => f.elim, rfl, fun j i h => by simp at h⟩
  | .val s :: xs, vs, Frs, env, w, args, env2, bs, E, A, h => by
    cases A with
    | @cons v vs a as Fr Frs hA hd A =>
      unfold takeA at h
      cases g : takeA xs env with
      | none => rw [g] at h; cases h
      | some q =>
        obtain ⟨args1, env3, bs1⟩ := q
        rw [g] at h
        cases h
        obtain ⟨Fc, F2, q1, q2, q3, q4, q5, q6, q7⟩ := take_ok E A g
        have T : TR Γ w v s Fr := hA
        refine ⟨fun j a => match j with | 0 => Fr a | j + 1 => Fc j a, F2, ER.consArg q1 T.rep T.sub fun a j f f' => ?_, q2, fun j a f => ?_, q4, fun j i a f f' => ?_, by simp [q6], fun j i hb => ?_⟩
        · rcases q3 j a f' with ⟨i, z⟩ | ⟨G, hG, z⟩
          · exact T.off a i f z
          · exact hd G hG a f z
        · cases j with
          | zero => exact .inr ⟨Fr, List.mem_cons_self, f⟩
          | succ j =>
            rcases q3 j a f with z | ⟨G, hG, z⟩
            · exact .inl z
            · exact .inr ⟨G, List.mem_cons_of_mem _ hG, z⟩
        · cases j with
          | zero => exact T.off a i f (q4 i a f')
          | succ j => exact q5 j i a f f'
        · cases j with
          | zero => cases hb
          | succ j =>
            obtain ⟨u, h1, h2⟩ := q7 j i (by simpa using hb)
            exact ⟨u, by simpa using h1, h2⟩
  | .brw l :: xs, vs, Frs, env, w, args, env2, bs, E, A, h => by
    cases A with
    | @cons v vs a as Fr Frs hA hd A =>
      unfold takeA at h
      cases g0 : got env[l]? with
      | none => simp only [g0] at h; cases h
      | some s =>
        simp only [g0] at h
        obtain ⟨v0, ev0, r0⟩ := E.at g0
        have hv : v = v0 := by
          have h1 := hA.1
          rw [ev0] at h1
          cases h1
          rfl
        subst hv
        split at h
        · rename_i no
          cases g : takeA xs env with
          | none => rw [g] at h; cases h
          | some q =>
            obtain ⟨args1, env3, bs1⟩ := q
            rw [g] at h
            cases h
            obtain ⟨Fc, F2, q1, q2, q3, q4, q5, q6, q7⟩ := take_ok E A g
            have nF := r0.none_own no
            refine ⟨fun j a => match j with | 0 => w.F l a | j + 1 => Fc j a, F2, ER.consArg q1 r0 (fun a f => E.sub l a f) (fun a j f f' => nF a f), q2, fun j a f => ?_, q4, fun j i a f f' => ?_, by simp [q6], fun j i hb => ?_⟩
            · cases j with
              | zero => exact .inl ⟨l, f⟩
              | succ j =>
                rcases q3 j a f with z | ⟨G, hG, z⟩
                · exact .inl z
                · exact .inr ⟨G, List.mem_cons_of_mem _ hG, z⟩
            · cases j with
              | zero => exact nF a f
              | succ j => exact q5 j i a f f'
            · cases j with
              | zero => cases hb
              | succ j =>
                obtain ⟨u, h1, h2⟩ := q7 j i (by simpa using hb)
                exact ⟨u, by simpa using h1, h2⟩
        · cases g : takeA xs (env.set l .none) with
          | none => rw [g] at h; cases h
          | some q =>
            obtain ⟨args1, env3, bs1⟩ := q
            rw [g] at h
            cases h
            have E' := E.moved l
            have A' := A.moved l
            obtain ⟨Fc, F2, q1, q2, q3, q4, q5, q6, q7⟩ := take_ok E' A' g
            refine ⟨fun j a => match j with | 0 => w.F l a | j + 1 => Fc j a, F2, ER.consArg q1 r0 (fun a f => E.sub l a f) (fun a j f f' => ?_), q2, fun j a f => ?_, fun i a f => (q4 i a f).1, fun j i a f f' => ?_, by simp [q6], fun j i hb => ?_⟩
            · rcases q3 j a f' with ⟨i, z⟩ | ⟨G, hG, z⟩
              · exact z.2 (E.dis i l a z.1 f)
              · exact A.offs G hG a z l f
            · cases j with
              | zero => exact .inl ⟨l, f⟩
              | succ j =>
                rcases q3 j a f with ⟨i, z⟩ | ⟨G, hG, z⟩
                · exact .inl ⟨i, z.1⟩
                · exact .inr ⟨G, List.mem_cons_of_mem _ hG, z⟩
            · cases j with
              | zero => exact (q4 i a f').2 (E.dis i l a (q4 i a f').1 f)
              | succ j => exact q5 j i a f f'
            · cases j with
              | zero =>
                cases hb
                refine ⟨v, rfl, ev0, ?_⟩
                have h1 : env3.length = σ.length := q2.len
                have h3 := (List.getElem?_eq_some_iff.mp ev0).1
                show l < env3.length
                omega
              | succ j =>
                obtain ⟨u, h1, h2⟩ := q7 j i (by simpa using hb)
                exact ⟨u, by simpa using h1, h2⟩
theorem List.set_self' {α : Type} {l : List α} {i : Nat} {a : α} (h : l[i]? = some a) : l.set i a = l := by
  apply List.ext_getElem?
  intro j
  rw [List.getElem?_set]
  by_cases e : i = j
  · subst e
    rw [if_pos rfl, h, if_pos (List.getElem?_eq_some_iff.mp h).1]
  · rw [if_neg e]
theorem putA_len : ∀ (bs : List (Option Nat)) (ss : List (Sl Γ)) (env : Env Γ), (putA bs ss env).length = env.length
  | some i :: bs, s :: ss, env => by unfold putA; rw [List.length_set, putA_len bs ss env]
  | none :: bs, _ :: ss, env => by unfold putA; exact putA_len bs ss env
  | [], _, _ => by unfold putA; rfl
  | some _ :: _, [], _ => by unfold putA; rfl
  | none :: _, [], _ => by unfold putA; rfl
theorem put_ok : ∀ (bs : List (Option Nat)) (ss : List (Sl Γ)) (vs : List V) (Gs : Nat → Addr → Prop) (w : Wd) (env : Env Γ), ER Γ w σ env →
    (∀ (j : Nat) (s : Sl Γ), ss[j]? = some s → (s = .none ∧ ∀ a, ¬ Gs j a) ∨ ∃ v, vs[j]? = some v ∧ SR Γ w.M w.H v s (Gs j)) → (∀ j a, Gs j a → w.M a ∧ ∀ i, ¬ w.F i a) → (∀ j j' a, Gs j a → Gs j' a → j = j') →
    (∀ (j i : Nat), bs[j]? = some (some i) → ∃ v, vs[j]? = some v ∧ σ[i]? = some (some v) ∧ i < env.length) →
    ∃ F', ER Γ ⟨w.M, F', w.H⟩ σ (putA bs ss env) ∧ ∀ i a, F' i a → w.F i a ∨ ∃ j, bs[j]? = some (some i) ∧ Gs j a
  | [], ss, vs, Gs, w, env, E, hs, hG, hd, hb => ⟨w.F, by unfold putA; exact E, fun i a f => .inl f⟩
  | b :: bs, [], vs, Gs, w, env, E, hs, hG, hd, hb => ⟨w.F, by cases b <;> (unfold putA; exact E), fun i a f => .inl f⟩
  | none :: bs, s :: ss, vs, Gs, w, env, E, hs, hG, hd, hb => by
    obtain ⟨F', E', h'⟩ := put_ok bs ss vs.tail (fun j => Gs (j + 1)) w env E (fun j t e => by
        rcases hs (j + 1) t (by simpa using e) with z | ⟨v, e1, r⟩
        · exact .inl z
        · exact .inr ⟨v, by rw [List.getElem?_tail]; exact e1, r⟩) (fun j a g => hG (j + 1) a g) (fun j j' a g g' => by have := hd (j + 1) (j' + 1) a g g'; omega) (fun j i e => by
        obtain ⟨v, e1, e2⟩ := hb (j + 1) i (by simpa using e)
        exact ⟨v, by rw [List.getElem?_tail]; exact e1, e2⟩)
    exact ⟨F', by unfold putA; exact E', fun i a f => (h' i a f).imp id fun ⟨j, b, g⟩ => ⟨j + 1, by simpa using b, g⟩⟩
  | some l :: bs, s :: ss, vs, Gs, w, env, E, hs, hG, hd, hb => by
    obtain ⟨F', E', h'⟩ := put_ok bs ss vs.tail (fun j => Gs (j + 1)) w env E (fun j t e => by
        rcases hs (j + 1) t (by simpa using e) with z | ⟨v, e1, r⟩
        · exact .inl z
        · exact .inr ⟨v, by rw [List.getElem?_tail]; exact e1, r⟩) (fun j a g => hG (j + 1) a g) (fun j j' a g g' => by have := hd (j + 1) (j' + 1) a g g'; omega) (fun j i e => by
        obtain ⟨v, e1, e2⟩ := hb (j + 1) i (by simpa using e)
        exact ⟨v, by rw [List.getElem?_tail]; exact e1, e2⟩)
    obtain ⟨v, e1, e2, e3⟩ := hb 0 l rfl
    rcases hs 0 s rfl with ⟨z1, z2⟩ | ⟨v', e1', r⟩
    · subst z1
      have E2 := E'.moved l
      refine ⟨fun j a => F' j a ∧ j ≠ l, by unfold putA; exact E2, fun i a f => (h' i a f.1).imp id fun ⟨j, b, g⟩ => ⟨j + 1, by simpa using b, g⟩⟩
    · rw [e1] at e1'
      cases e1'
      have T : TR Γ ⟨w.M, F', w.H⟩ v s (Gs 0) := ⟨r, fun a g => (hG 0 a g).1, fun a i g f => by
        rcases h' i a f with z | ⟨j, _, z⟩
        · exact (hG 0 a g).2 i z
        · have := hd 0 (j + 1) a g z; omega⟩
      have E2 := E'.set T (i := l) (by rw [putA_len]; exact e3)
      rw [List.set_self' e2] at E2
      refine ⟨fun j a => if j = l then Gs 0 a else F' j a, by unfold putA; exact E2, fun i a f => ?_⟩
      have f' : (if i = l then Gs 0 a else F' i a) := f
      split at f'
      · rename_i ei
        exact .inr ⟨0, by rw [ei]; rfl, f'⟩
      · exact (h' i a f').imp id fun ⟨j, b, g⟩ => ⟨j + 1, by simpa using b, g⟩
theorem call_coreX {np : Nat} {g : Fn Γ} {env env1 env2 : Env Γ} {xs : List (Ag Γ)} {vs : List V} {Frs : List (Addr → Prop)} {args args' : List (Sl Γ)} {bs : List (Option Nat)} {r : Sl Γ} {w w1 : Wd} {Q : VK} {E0 : XK} (E : ER Γ w σ env) (p1 : Step w w1) (E1 : ER Γ w1 σ env1) (A1 : ARs Γ w1 σ vs xs Frs) (f1 : ∀ G ∈ Frs, Fresh w G)
    (g2 : takeA xs env1 = some (args, env2, bs)) (hn : args.length = np) (g3 : g args = some (r, args')) (k : ∀ v w' Fr, ER Γ w' σ (putA bs args' env2) → TR Γ w' v r Fr → Step w w' → Fresh w Fr → (∀ (j : Nat) (s : Sl Γ), args'[j]? = some s → bs[j]? = some none → s = .none ∨ ∃ u G, vs[j]? = some u ∧ TR Γ w' u s G ∧ Fresh w G) → Q v w'.H) : spG Γ np g vs w1.H Q E0 := by
  obtain ⟨Fc, F2, Ec, E2, c1, c2, c3, c4, c5⟩ := take_ok E1 A1 g2
  refine ⟨args, r, args', ⟨w1.M, Fc, w1.H⟩, g3, hn, rfl, Ec, fun v wc Fr Ec' T' pc fc => ?_⟩
  -- the slots that were not lent
  have gc := Ec.go pc
  have keep2 : ∀ i a u, F2 i a → w1.H a = some u → wc.H a = some u := fun i a u f e => pc.keep a u (fun j z => c3 j i a z f) e
  have E3 : ER Γ ⟨wc.M, F2, wc.H⟩ σ env2 := by
    refine ⟨E2.len, fun i s hs => ?_, fun i a f => pc.mu a (fun j z => c3 j i a z f) (E2.sub i a f), E2.dis, Ec'.dom, E2.out⟩
    rcases E2.slot i s hs with z | ⟨u, eu, ru⟩
    · exact .inl z
    · exact .inr ⟨u, eu, ru.go gc fun a o f e => keep2 i a o f e⟩
  have off2 : ∀ a, ((∃ j, Fc j a) ∨ w1.H a = none) → ∀ i, ¬ F2 i a := fun a h i f => by
    rcases h with ⟨j, z⟩ | z
    · exact c3 j i a z f
    · exact E2.dom a (E2.sub i a f) z
  obtain ⟨F', E4, h4⟩ := put_ok bs args' vs wc.F ⟨wc.M, F2, wc.H⟩ env2 E3 (fun j s hs => by
      rcases Ec'.slot j s hs with z | ⟨u, eu, ru⟩
      · exact .inl z
      · refine .inr ⟨u, ?_, ru⟩
        rw [List.getElem?_map] at eu
        cases q : vs[j]? with
        | none => rw [q] at eu; cases eu
        | some x => rw [q] at eu; cases eu; rfl)
    (fun j a f => ⟨Ec'.sub j a f, off2 a (pc.own j a f)⟩) Ec'.dis c5
  have fw : ∀ a, ((∃ j, Fc j a) ∨ w1.H a = none) → (∃ i, w.F i a) ∨ w.H a = none := fun a h => by
    have back : w1.H a = none → w.H a = none := fun z => by
      cases q : w.H a with
      | none => rfl
      | some u => exact absurd z (p1.live a (by rw [q]; simp))
    rcases h with ⟨j, z⟩ | z
    · rcases c1 j a z with ⟨i, y⟩ | ⟨G, hG, y⟩
      · exact p1.own i a y
      · exact f1 G hG a y
    · exact .inr (back z)
  have nFc : ∀ a, (∀ i, ¬ w.F i a) → w.H a ≠ none → ∀ j, ¬ Fc j a := fun a h hn j z => (fw a (.inl ⟨j, z⟩)).elim (fun ⟨i, y⟩ => h i y) hn
  refine k v ⟨wc.M, F', wc.H⟩ Fr E4 ⟨T'.rep, T'.sub, fun a i f z => ?_⟩ ⟨fun a u h e => ?_, fun a h m => ?_, fun a m => ?_, fun i a f => ?_, fun a h => ?_⟩ (fun a f => fw a (fc a f)) ?_
  · rcases h4 i a z with y | ⟨j, _, y⟩
    · exact off2 a (fc a f) i y
    · exact T'.off a j f y
  · exact pc.keep a u (nFc a h (by rw [e]; simp)) (p1.keep a u h e)
  · exact pc.mu a (nFc a h (E.dom a m)) (p1.mu a h m)
  · rcases pc.src a m with z | z
    · exact p1.src a z
    · refine .inr ?_
      cases q : w.H a with
      | none => rfl
      | some u => exact absurd z (p1.live a (by rw [q]; simp))
  · rcases h4 i a f with y | ⟨j, _, y⟩
    · exact p1.own i a (c2 i a y)
    · exact fw a (pc.own j a y)
  · exact pc.live a (p1.live a h)
  · intro j s hs hb
    rcases Ec'.slot j s hs with ⟨z, _⟩ | ⟨u, eu, ru⟩
    · exact .inl z
    · refine .inr ⟨u, wc.F j, ?_, ⟨ru, fun a f => Ec'.sub j a f, fun a i f z => ?_⟩, fun a f => fw a (pc.own j a f)⟩
      · rw [List.getElem?_map] at eu
        cases q : vs[j]? with
        | none => rw [q] at eu; cases eu
        | some x => rw [q] at eu; cases eu; rfl
      · rcases h4 i a z with y | ⟨j', b, y⟩
        · exact off2 a (pc.own j a f) i y
        · have ej := Ec'.dis j' j a y f
          subst ej
          rw [hb] at b
          cases b
theorem call_core {np : Nat} {g : Fn Γ} {env env1 env2 : Env Γ} {xs : List (Ag Γ)} {vs : List V} {Frs : List (Addr → Prop)} {args args' : List (Sl Γ)} {bs : List (Option Nat)} {r : Sl Γ} {w w1 : Wd} {Q : VK} {E0 : XK} (E : ER Γ w σ env) (p1 : Step w w1) (E1 : ER Γ w1 σ env1) (A1 : ARs Γ w1 σ vs xs Frs) (f1 : ∀ G ∈ Frs, Fresh w G)
    (g2 : takeA xs env1 = some (args, env2, bs)) (hn : args.length = np) (g3 : g args = some (r, args')) (k : ∀ v w' Fr, ER Γ w' σ (putA bs args' env2) → TR Γ w' v r Fr → Step w w' → Fresh w Fr → Q v w'.H) : spG Γ np g vs w1.H Q E0 := by
  exact call_coreX E p1 E1 A1 f1 g2 hn g3 fun v w' Fr a b c d _ => k v w' Fr a b c d
theorem call_run {np : Nat} {g : Fn Γ} {es : List Expr} {as : List (AE Γ)} {env env' : Env Γ} {r : Sl Γ} {w : Wd} {Q : VK} {E0 : XK} (hK : Gd Γ X) (ha : SdL Γ X es as) (he : mCall np g as env = some (r, env')) (E : ER Γ w σ env)
    (k : ∀ v w' Fr, ER Γ w' σ env' → TR Γ w' v r Fr → Step w w' → Fresh w Fr → Q v w'.H) : wL X es σ w.H fun vs H1 => spG Γ np g vs H1 Q E0 := by
  unfold mCall at he
  cases g1 : evAs as env with
  | none => simp only [g1] at he; cases he
  | some q =>
    obtain ⟨xs, env1⟩ := q
    simp only [g1] at he
    cases g2 : takeA xs env1 with
    | none => simp only [g2] at he; cases he
    | some q =>
      obtain ⟨args, env2, bs⟩ := q
      simp only [g2] at he
      split at he
      · rename_i hn
        cases g3 : g args with
        | none => simp only [g3] at he; cases he
        | some q =>
          obtain ⟨r1, args'⟩ := q
          simp only [g3] at he
          cases he
          exact sdl_run hK ha g1 E fun vs w1 Frs E1 A1 p1 f1 => call_core E p1 E1 A1 f1 g2 hn g3 k
      · cases he
/-- a def of the text as it may be called -/
structure Df (Γ : Gam) (X : Cx) (x : Str) (np : Nat) (g : Fn Γ) : Prop where
  ex : ∃ k f fd ps, FnOk X.prog X.w X.K X.mg X.base CX0 k f fd ps (spG Γ np g) ∧ Room k X.A ∧ X.mg x = some (.ref f) ∧ PySem.W.keepIn X.K (.ref f) = true ∧ Binds X.K fd ps []
theorem sd_call {x : Str} {np : Nat} {g : Fn Γ} {e : Expr} {es : List Expr} {as : List (AE Γ)} {p pos : Pos} (h : Df Γ X x np g) (hg : Gl X x) (ha : SdL Γ X (e :: es) as) (hdb : (x == ("__debug__" : Str)) = false := by decide) (hpl : (backTo pos (starEach es X.env)).any (·.1) = false := by rfl) :
    SdE Γ X (.Call (.Name x p) (e :: es) [] pos) (mCall np g as) := by
  obtain ⟨k, f, fd, ps, h1, h2, h3, h4, h5⟩ := h
  intro hK σ env r env' w Q he E k
  refine wE.of (pe_call (E := E0) h1 h2 hg h3 h4 h5 .nil pass0 (pa_wL ha.ns) hdb (ha.ns e List.mem_cons_self es) hpl) ?_
  unfold tCall
  simp only [List.append_nil]
  exact call_run hK ha he E k
theorem sd_call0 {x : Str} {g : Fn Γ} {p pos : Pos} (h : Df Γ X x 0 g) (hg : Gl X x) (hdb : (x == ("__debug__" : Str)) = false := by decide) : SdE Γ X (.Call (.Name x p) [] [] pos) (mCall 0 g []) := by
  obtain ⟨k, f, fd, ps, h1, h2, h3, h4, h5⟩ := h
  intro hK σ env r env' w Q he E k
  exact wE.of (pe_call0 (E := E0) h1 h2 hg h3 h4 h5 .nil pass0 hdb) (call_run hK .nil he E k)
end
end G

/-! G13: isinstance, methods of texts, sorted, walks over texts and enumerate -/
namespace G
open PySem L2

/-! ### isinstance(x, T) -/
def D.ty : D → Option String
  | .non => some "NoneType"
  | .bl _ => some "bool"
  | .int _ => some "int"
  | .str _ => some "str"
  | .tup _ => some "tuple"
  | .lst _ => some "list"
  | .ins _ _ => none
def isT (T : String) : D → Option Bool
  | .non => if T = "NoneType" then none else some false
  | .bl _ => if T = "bool" ∨ T = "int" then some true else if T = "str" ∨ T = "tuple" ∨ T = "list" then some false else none
  | .int _ => if T = "int" then some true else if T = "bool" ∨ T = "str" ∨ T = "tuple" ∨ T = "list" then some false else none
  | .str _ => if T = "str" then some true else if T = "int" ∨ T = "bool" ∨ T = "tuple" ∨ T = "list" then some false else none
  | .tup _ => if T = "tuple" then some true else if T = "int" ∨ T = "bool" ∨ T = "str" ∨ T = "list" then some false else none
  | .lst _ => if T = "list" then some true else if T = "int" ∨ T = "bool" ∨ T = "str" ∨ T = "tuple" then some false else none
  | .ins _ _ => none
/-- T is one of the five -/
def fiveTy (T : String) : Prop := T = "int" ∨ T = "bool" ∨ T = "str" ∨ T = "tuple" ∨ T = "list"
theorem isT_kit {T : String} (h5 : fiveTy T) {d : D} {b : Bool} (h : isT T d = some b) : ∃ a, d.ty = some a ∧ kitB a T = some b := by
  rcases h5 with rfl | rfl | rfl | rfl | rfl <;> (cases d <;> first | (refine ⟨_, rfl, ?_⟩; simp [isT] at h; subst h; decide +kernel) | (exact absurd h (by simp [isT])))
def pIsi {Γ : Gam} (T : String) (s : Sl Γ) : Option (Sl Γ) :=
  match s.view with
  | some d => (isT T d).map db
  | none => none
section
variable {Γ : Gam} {X : Cx} {A : List Nat} {a b e : Expr} {es : List Expr} {fa fb : AE Γ} {f g : Ev Γ} {pos : Pos}
theorem SR.tyx {M : Addr → Prop} {H : Hp} {v : V} {s : Sl Γ} {G' : Addr → Prop} {d : D} {t : String} (h : SR Γ M H v s G') (e : s.view = some d) (ht : d.ty = some t) : TyX Γ.K H v (.type t) := by
  cases d with
  | non => cases ht; cases h.non e; exact .base .non
  | bl b => cases ht; cases h.bl e; exact .base (.bl b)
  | int i => cases ht; cases h.int e; exact .base (.int i)
  | str x => cases ht; cases h.str e; exact .base (.str x)
  | tup ds =>
    cases ht
    obtain ⟨p, vs, rfl, hp, r⟩ := h.tuple e
    rcases hp with ⟨_, hp | ⟨o, hp⟩⟩ | hp
    · exact .base (.tup hp)
    · exact .fTuple hp
    · rcases hp (fun _ => none) with (z | ⟨_, z⟩) | ⟨o, its, n, h1, h2, _⟩
      · cases z
      · cases z
      · exact .kTuple h1 h2
  | lst ds =>
    cases ht
    cases s with
    | dat d =>
      cases e
      cases h.1 with
      | lst n hp r => exact .base (.lst hp)
    | lst es => cases e; obtain ⟨p, vs, rfl, hp, r, n⟩ := h; exact .base (.lst hp)
    | scr ns =>
      obtain ⟨⟨p, rfl, hp⟩, n⟩ := h
      rcases hp with ⟨_, hp | ⟨o, hp⟩⟩ | hp
      · exact .base (.lst hp)
      · exact .base (.frz hp)
      · rcases hp (fun _ => none) with (z | ⟨_, z⟩) | ⟨o, its, n, h1, h2, _⟩
        · cases z
        · cases z
        · exact .kList h1 h2
    | _ => cases e
  | ins _ _ => cases ht
theorem sd_isi {T : String} {T' : Str} {p p2 : Pos} (h5 : fiveTy T) (hg : Gl X "isinstance") (hm : X.mg "isinstance" = none) (hgT : Gl X T') (hmT : X.mg T' = none) (hvT : bootBuiltins T' = some (.type T)) (ha : SdA Γ X a fa) (na : NS X a) (hnT : T' ≠ "__name__" := by decide) (hdT : (T' == ("__debug__" : Str)) = false := by decide)
    (hs2 : ∀ es, starEach (.Name T' p2 :: es) X.env = (false, eval (.Name T' p2) X.env) :: starEach es X.env := by intro _; rfl) (hpl : (backTo pos (starEach [.Name T' p2] X.env)).any (·.1) = false := by rfl) :
    SdE Γ X (.Call (.Name "isinstance" p) [a, .Name T' p2] [] pos) (m1 (pIsi T) fa) := by
  intro hK σ env r env' w Q he E k
  refine wE.of (pe_callB (id := "isinstance") (x := "isinstance") call_isi hg hm PyProof.Rows.boot_isinstance (pa_cons pe_wE (pa_cons (pe_bltn (v := .ty T) hgT hmT hvT rfl hnT hdT) pa_nil (hs2 [])) (na _)) (by decide) (by decide) (na _) hpl) ?_
  refine run1 (r := fun x H Q => rIsi Γ.K [x, .ty T] H Q) ?_ ha hK he E k |>.mono fun x H1 q => (hK.k ▸ q : rIsi X.K [x, .ty T] H1 Q)
  intro M H x sx s Gx Q dom hp hx k
  unfold pIsi at hp
  split at hp
  · rename_i d g1
    cases g2 : isT T d with
    | none => rw [g2] at hp; cases hp
    | some b =>
      rw [g2] at hp
      cases hp
      obtain ⟨t, h1, h2⟩ := isT_kit h5 g2
      exact ⟨x, .ty T, .type t, .type T, b, rfl, .ty T, hx.tyx g1 h1, kit_ty h2, k.dat (.bl _)⟩
  · cases hp

/-! ### methods of texts with one argument -/
def mM1 {Γ : Gam} (p : Str → Sl Γ → Option (Sl Γ)) (f : Ev Γ) (a : AE Γ) : Ev Γ := fun env =>
  match f env with
  | some (.dat (.str z), env1) => match evA a env1 with
    | none => none
    | some (x, env2) => match peek x env2 with
      | none => none
      | some sx => (p z sx).map fun s => (s, env2)
  | _ => none
theorem m1_run {r : V → List V → Hp → VK → Prop} {p : Str → Sl Γ → Option (Sl Γ)} {σ : St} {env env' : Env Γ} {w : Wd} {s : Sl Γ} {Q : VK} (hp : ∀ z, Prim1 Γ (fun y H Q => r (.str z) [y] H Q) (p z)) (hf : SdE Γ X a f) (hb : SdA Γ X b fb) (hK : Gd Γ X) (he : mM1 p f fb env = some (s, env')) (E : ER Γ w σ env)
    (k : ∀ v w' Fr, ER Γ w' σ env' → TR Γ w' v s Fr → Step w w' → Fresh w Fr → Q v w'.H) : tM1 r (wE X a) (wE X b) σ w.H Q := by
  unfold mM1 at he
  split at he
  · rename_i z env1 g1
    refine hf hK σ env _ _ w _ g1 E fun v w1 Fr E1 T1 p1 f1 => ?_
    cases T1.rep.str rfl
    refine ⟨⟨z, rfl⟩, ?_⟩
    have q := run1 (hp z) hb hK (env := env1) (env' := env') (s := s) (w := w1) (Q := Q) (by unfold m1; exact he) E1 fun v2 w2 Fr2 E2 T2 p2 f2 => k v2 w2 Fr2 E2 T2 (p1.trans p2 E.dom) (f2.back p1)
    exact q
  · cases he
theorem strs_dats {M : Addr → Prop} {H : Hp} : ∀ ys : List Str, Dats Γ M H (ys.map V.str) (ys.map D.str)
  | [] => .nil
  | y :: ys => .cons (.str y) (strs_dats ys)
def allStr : List D → Option (List Str)
  | [] => some []
  | .str s :: r => (allStr r).map (s :: ·)
  | _ => none
theorem allStr_ok {M : Addr → Prop} {H : Hp} : ∀ {vs : List V} {ds : List D} {ys : List Str}, Dats Γ M H vs ds → allStr ds = some ys → vs = ys.map V.str
  | _, _, _, .nil, e => by cases e; rfl
  | _, _, _, .cons (d := d) (ds := ds) h r, e => by
    cases d with
    | str b =>
      unfold allStr at e
      cases g : allStr ds with
      | none => rw [g] at e; cases e
      | some es =>
        rw [g] at e
        cases e
        cases h
        rw [allStr_ok r g]
        rfl
    | _ => cases e
def pJoin {Γ : Gam} (z : Str) (s : Sl Γ) : Option (Sl Γ) :=
  match s.view with
  | some (.lst ds) => match allStr ds with
    | some ys => if (ys.map (·.length)).sum + ys.length * z.length ≤ 16777216 then some (.dat (.str (Txt.join z ys))) else none
    | none => none
  | some (.tup ds) => match allStr ds with
    | some ys => if (ys.map (·.length)).sum + ys.length * z.length ≤ 16777216 then some (.dat (.str (Txt.join z ys))) else none
    | none => none
  | _ => none
theorem pJoin_ok (z : Str) : Prim1 Γ (fun y H Q => ∃ a p, ∃ ys : List Str, V.str z = .str a ∧ [y] = [.ref p] ∧ (SqL Γ.K H p (ys.map V.str) ∨ SqT Γ.K H p (ys.map V.str)) ∧ (ys.map (·.length)).sum + ys.length * a.length ≤ 16777216 ∧ Q (.str (Txt.join a ys)) H) (pJoin z) := by
  intro M H x sx s Gx Q dom hp hx k
  unfold pJoin at hp
  split at hp
  · rename_i ds g1
    split at hp
    · rename_i ys g2
      split at hp
      · rename_i hl
        cases hp
        obtain ⟨p, vs, rfl, hq, r⟩ := hx.list g1
        have ev := allStr_ok r g2
        subst ev
        exact ⟨z, p, ys, rfl, rfl, .inl hq, hl, k.dat (.str _)⟩
      · cases hp
    · cases hp
  · rename_i ds g1
    split at hp
    · rename_i ys g2
      split at hp
      · rename_i hl
        cases hp
        obtain ⟨p, vs, rfl, hq, r⟩ := hx.tuple g1
        have ev := allStr_ok r g2
        subst ev
        exact ⟨z, p, ys, rfl, rfl, .inr hq.sq, hl, k.dat (.str _)⟩
      · cases hp
    · cases hp
  · cases hp
theorem sd_join {apos : Pos} (hf : SdE Γ X a f) (hb : SdA Γ X b fb) (nb : NS X b) (hbase : attributeBase a "join" X.env (eval a X.env) = eval a X.env := by rfl) (hline : (apos.endLine == pos.line) = true := by rfl) : SdE Γ X (.Call (.Attribute a "join" apos) [b] [] pos) (mM1 pJoin f fb) := by
  intro hK σ env r env' w Q he E k
  refine wE.of (pe_join pe_wE pe_wE (nb []) hbase hline) ?_
  rw [← hK.k]
  exact m1_run pJoin_ok hf hb hK he E k
def pSplit {Γ : Gam} (z : Str) (s : Sl Γ) : Option (Sl Γ) :=
  match s.view with
  | some (.str y) => if (y.length == 0) = false ∧ z.length + 2 ≤ sizeLine then some (.lst ((Txt.split z y).map .str)) else none
  | _ => none
theorem pSplit_ok (z : Str) : Prim1 Γ (fun y H Q => ∃ a b, V.str z = .str a ∧ [y] = [V.str b] ∧ (b.length == 0) = false ∧ a.length + 2 ≤ sizeLine ∧ rNewStrs (Txt.split a b) H Q) (pSplit z) := by
  intro M H x sx s Gx Q dom hp hx k
  unfold pSplit at hp
  split at hp
  · rename_i y g1
    split at hp
    · rename_i hl
      cases hp
      cases hx.str g1
      exact ⟨z, y, rfl, rfl, hl.1, hl.2, fun p hp => k.lst (strs_dats _) hp⟩
    · cases hp
  · cases hp
theorem sd_split {apos : Pos} (hf : SdE Γ X a f) (hb : SdA Γ X b fb) (nb : NS X b) (hbase : attributeBase a "split" X.env (eval a X.env) = eval a X.env := by rfl) (hline : (apos.endLine == pos.line) = true := by rfl) : SdE Γ X (.Call (.Attribute a "split" apos) [b] [] pos) (mM1 pSplit f fb) := by
  intro hK σ env r env' w Q he E k
  exact wE.of (pe_split pe_wE pe_wE (nb []) hbase hline) (m1_run pSplit_ok hf hb hK he E k)

/-! ### walks over a text, enumerate -/
def iTxt {Γ : Gam} (f : Ev Γ) : Ei Γ := fun env =>
  match f env with
  | some (.dat (.str z), env') => some (z.cps.toList.map fun c => .str ⟨#[c]⟩, env')
  | _ => none
theorem sdi_str {tg iter : Expr} (h : SdE Γ X iter f) : SdI Γ X tg iter (iTxt f) := by
  intro hK σ env ds env' w R he E k
  unfold iTxt at he
  split at he
  · rename_i z env1 g1
    cases he
    refine wI.of (pi_str pe_wE) (h hK σ env _ _ w _ g1 E fun v w1 Fr E1 T1 p1 f1 => ⟨z, T1.rep.str rfl, k _ w1 E1 p1 ?_⟩)
    refine ⟨fun M' H' g _ i d e => ?_, fun M' H' g => ?_⟩
    · rw [List.getElem?_map] at e
      cases q : z.cps.toList[i]? with
      | none => rw [q] at e; cases e
      | some c =>
        rw [q] at e
        cases e
        have hi := (List.getElem?_eq_some_iff.mp q).1
        refine ⟨(by show i < z.cps.size; simpa using hi), fun x H2 y => ?_⟩
        obtain ⟨rfl, c', ec, rfl⟩ := y
        have : c' = c := by
          have q' : z.cps[i]? = some c := by simpa using q
          rw [ec] at q'
          exact Option.some.inj q'
        subst this
        exact ⟨fun _ _ z => z, .str _⟩
    · show z.cps.size ≤ _
      rw [List.length_map]
      simp
  · cases he
def iEnu {Γ : Gam} (f : Ev Γ) : Ei Γ := fun env =>
  match f env with
  | some (.dat (.lst ds), env') => some (ds.zipIdx.map fun q => .tup [.int (q.2 : Nat), q.1], env')
  | _ => none
theorem sdi_enum {elts : List Expr} {kk : Nat} {tpos p : Pos} (hg : Gl X "enumerate") (hm : X.mg "enumerate" = none) (ha : SdE Γ X a f) (hs : NS X a) : SdI Γ X (.Tuple elts kk tpos) (.Call (.Name "enumerate" p) [a] [] pos) (iEnu f) := by
  intro hK σ env ds env' w R he E k
  refine wI.of (pi_enum hg hm (pa_wL (es := [a]) fun e h => by rw [List.mem_singleton.mp h]; exact hs) (hs [])) ?_
  unfold iEnu at he
  split at he
  · rename_i es env1 g1
    cases he
    refine ha hK σ env _ _ w _ g1 E fun v w1 Fr E1 T1 p1 f1 => ?_
    cases T1.rep.1 with
    | @lst a vs _ n hp r =>
      refine ⟨a, vs, rfl, SqL.of hp, ?_⟩
      rw [← hK.k]
      refine k _ w1 E1 p1 ⟨fun M' H' g dom i d e => ?_, fun M' H' g => ⟨vs, SqL.of (g.keep a _ n hp), by rw [r.length, List.length_map, List.length_zipIdx]; exact Nat.le_refl _⟩⟩
      rw [List.getElem?_map, List.getElem?_zipIdx] at e
      cases q : es[i]? with
      | none => rw [q] at e; cases e
      | some d0 =>
        rw [q] at e
        cases e
        obtain ⟨u, eu, hu⟩ := r.get q
        refine ⟨⟨vs, u, SqL.of (g.keep a _ n hp), eu⟩, fun x H2 y => ?_⟩
        obtain ⟨T, x0, rfl, hT, rfl, hx⟩ := y
        have e0 := hx vs (SqL.of (g.keep a _ n hp))
        rw [eu] at e0
        cases e0
        refine ⟨upd_keep hT, .tup (.inl ⟨fun m => dom T m hT, .inl upd_same⟩) (.cons (by rw [Nat.zero_add]; exact .int _) (.cons ((hu.go g).go ⟨fun a' u' _ e' => upd_keep hT a' u' e', fun _ n' _ => n'⟩) .nil))⟩
  · cases he
end
end G

/-! G14: names of the module, sorted -/
namespace G
open PySem L2
def pMax2 {Γ : Gam} : Sl Γ → Sl Γ → Option (Sl Γ) := p0 fun i j => .int (if j > i then j else i)
def pMin2 {Γ : Gam} : Sl Γ → Sl Γ → Option (Sl Γ) := p0 fun i j => .int (if j < i then j else i)
def pAll {Γ : Gam} : Sl Γ → Option (Sl Γ) := pBools fun bs => bs.all id
def pAny {Γ : Gam} : Sl Γ → Option (Sl Γ) := pBools fun bs => bs.any id
/-- a def of the module -/
structure Ca (Γ : Gam) (P : Program) (w : World) (mg : Str → Option Value) (base : Heap) (x : Str) (np : Nat) (g : Fn Γ) (k : Nat) : Prop where
  ex : ∃ f fd ps, FnOk P w Γ.K mg base CX0 k f fd ps (spG Γ np g) ∧ mg x = some (.ref f) ∧ PySem.W.keepIn Γ.K (.ref f) = true ∧ Binds Γ.K fd ps []
theorem Ca.df {Γ : Gam} {X : Cx} {x : Str} {np : Nat} {g : Fn Γ} {k j : Nat} (hK : Γ.K = X.K) (c : Ca Γ X.prog X.w X.mg X.base x np g k) (hr : Room j X.A) (h : k ≤ j) : Df Γ X x np g := by
  obtain ⟨f, fd, ps, h1, h2, h3, h4⟩ := c
  exact ⟨k, f, fd, ps, hK ▸ h1, hr.mono h, h2, hK ▸ h3, hK ▸ h4⟩
theorem fn_okG {Γ : Gam} {P : Program} {w : World} {mg : Str → Option Value} {base : Heap} {x qual : Str} {st : Stmt} {f : Addr} {fd : FuncData} {N ps : List Str} {k np loc : Nat} {A : List Nat} {body : Es Γ} {g : Fn Γ} (F : Fun Γ.K x qual st f fd) (S : FnScope N ps (defScope st))
    (e1 : ps.length = np) (e2 : N.length - np = loc) (e3 : g = mFun np loc A body)
    (hb : ∀ (cdv : Value) (Ar : Around) (outer : List PySem.Env) (s : Shared) (H : Hp) (E : XK), Room k (Ar.deeper (PyProof.Rows.envOfC qual (defScope st) s.heap.objs.size f cdv)) → SdSs Γ (cxOf CX0 P w Γ.K mg base N qual (defScope st) f cdv Ar outer s H E).nox A (defBody st) body) :
    FnOk P w Γ.K mg base CX0 (k + 1) f fd ps (spG Γ np g) := by
  subst e1 e2 e3
  exact fn_ok F S hb
section
variable {Γ : Gam} {X : Cx} {pos : Pos}
theorem sd_gI {x : Str} {i : Int} (hg : Gl X x) (hm : ∃ t, X.mg x = some (.int i t)) (hd : (x == ("__debug__" : Str)) = false := by decide) : SdE Γ X (.Name x pos) (mC (.int i)) := by
  obtain ⟨t, hm⟩ := hm
  exact sd_gint hg hm hd
theorem sd_gS {x z : Str} (hg : Gl X x) (hm : ∃ t, X.mg x = some (.str z t)) (hd : (x == ("__debug__" : Str)) = false := by decide) : SdE Γ X (.Name x pos) (mC (.str z)) := by
  obtain ⟨t, hm⟩ := hm
  exact sd_gstr hg hm hd
end

/-! ### sorting -/
section
variable {α : Type} (lt : α → α → Bool)
def insS (a : α) : List α → List α
  | [] => [a]
  | b :: r => if lt b a = true then b :: insS a r else a :: b :: r
def sortBy : List α → List α
  | [] => []
  | a :: r => insS lt a (sortBy r)
theorem insS_perm (a : α) : ∀ r : List α, (insS lt a r).Perm (a :: r)
  | [] => List.Perm.refl _
  | b :: r => by
    unfold insS
    split
    · exact ((insS_perm a r).cons b).trans (List.Perm.swap a b r)
    · exact List.Perm.refl _
theorem sortBy_perm : ∀ r : List α, (sortBy lt r).Perm r
  | [] => List.Perm.refl _
  | a :: r => (insS_perm lt a (sortBy lt r)).trans ((sortBy_perm r).cons a)
/-- a strict order of all -/
structure Strict : Prop where
  tr : ∀ a b c, lt a b = true → lt b c = true → lt a c = true
  ir : ∀ a, lt a a = false
  to : ∀ a b, lt a b = false → lt b a = false → a = b
variable {lt}
theorem Strict.as (h : Strict lt) {a b : α} (q : lt a b = true) : lt b a = false := by
  cases e : lt b a with
  | false => rfl
  | true => have := h.tr a b a q e; rw [h.ir] at this; cases this
def Asc (lt : α → α → Bool) (r : List α) : Prop := r.Pairwise fun a b => lt b a = false
theorem insS_asc (h : Strict lt) (a : α) : ∀ r : List α, Asc lt r → Asc lt (insS lt a r)
  | [], _ => by unfold insS; exact List.pairwise_singleton _ _
  | b :: r, q => by
    unfold insS
    have q' := List.pairwise_cons.mp q
    split
    · rename_i hb
      refine List.pairwise_cons.mpr ⟨fun x hx => ?_, insS_asc h a r q'.2⟩
      rcases List.mem_cons.mp ((insS_perm lt a r).mem_iff.mp hx) with z | z
      · subst z; exact h.as hb
      · exact q'.1 x z
    · rename_i hb
      have hb : lt b a = false := by cases e : lt b a with | false => rfl | true => exact absurd e hb
      refine List.pairwise_cons.mpr ⟨fun x hx => ?_, q⟩
      rcases List.mem_cons.mp hx with z | z
      · subst z; exact hb
      · have h1 := q'.1 x z
        cases e : lt x a with
        | false => rfl
        | true =>
          cases e2 : lt b x with
          | true => have := h.tr b x a e2 e; rw [hb] at this; cases this
          | false =>
            have := h.to b x e2 h1
            subst this
            rw [hb] at e
            cases e
theorem sortBy_asc (h : Strict lt) : ∀ r : List α, Asc lt (sortBy lt r)
  | [] => List.Pairwise.nil
  | a :: r => insS_asc h a _ (sortBy_asc h r)
theorem asc_unique (h : Strict lt) : ∀ {r s : List α}, r.Perm s → Asc lt r → Asc lt s → r = s
  | [], s, p, _, _ => by rw [List.nil_perm.mp p]
  | a :: r, [], p, _, _ => by have := p.length_eq; simp at this
  | a :: r, b :: s, p, ha, hb => by
    have ha' := List.pairwise_cons.mp ha
    have hb' := List.pairwise_cons.mp hb
    have eab : a = b := by
      rcases List.mem_cons.mp (p.mem_iff.mp List.mem_cons_self) with z | z
      · exact z
      · rcases List.mem_cons.mp (p.mem_iff.mpr List.mem_cons_self) with y | y
        · exact y.symm
        · exact h.to a b (hb'.1 a z) (ha'.1 b y)
    subst eab
    rw [asc_unique h (List.Perm.cons_inv p) ha'.2 hb'.2]
end
def ltI (a b : Int) : Bool := decide (a < b)
theorem strictI : Strict ltI := ⟨fun a b c h1 h2 => by unfold ltI at *; simp at *; omega, fun a => by unfold ltI; simp, fun a b h1 h2 => by unfold ltI at *; simp at *; omega⟩
theorem lt_list_trichotomy : ∀ (a b : List Nat), ¬ a < b → ¬ b < a → a = b
  | [], [], _, _ => rfl
  | [], b :: r, h, _ => absurd (List.nil_lt_cons b r) h
  | a :: r, [], _, h => absurd (List.nil_lt_cons a r) h
  | a :: r, b :: t, h1, h2 => by
    rw [List.cons_lt_cons_iff] at h1 h2
    have e : a = b := by omega
    subst e
    rw [lt_list_trichotomy r t (fun q => h1 (.inr ⟨rfl, q⟩)) (fun q => h2 (.inr ⟨rfl, q⟩))]
theorem ltCps_eq : ∀ (a b : List Nat), Spec.ltCps a b = decide (a < b)
  | [], [] => by simp [Spec.ltCps]
  | [], b :: r => by simp [Spec.ltCps]
  | a :: r, [] => by simp [Spec.ltCps]
  | a :: r, b :: t => by
    unfold Spec.ltCps
    rw [ltCps_eq r t]
    simp only [List.cons_lt_cons_iff]
    by_cases h1 : a < b <;> by_cases h2 : a = b <;> simp [h1, h2]
theorem strictS : Strict sLt := by
  refine ⟨fun a b c h1 h2 => ?_, fun a => ?_, fun a b h1 h2 => ?_⟩
  · unfold sLt at *
    exact decide_eq_true (List.lt_trans (of_decide_eq_true h1) (of_decide_eq_true h2))
  · unfold sLt
    exact decide_eq_false (List.lt_irrefl _)
  · unfold sLt at *
    have := lt_list_trichotomy _ _ (of_decide_eq_false h1) (of_decide_eq_false h2)
    cases a with
    | mk x =>
      cases b with
      | mk y =>
        have e : x = y := Array.toList_inj.mp this
        rw [e]
def sortI : List Int → List Int := sortBy ltI
def sortS : List Str → List Str := sortBy sLt
theorem sortI_of {ns ms : List Int} (p : ms.Perm ns) (q : ms.Pairwise (· ≤ ·)) : ms = sortI ns :=
  asc_unique strictI (p.trans (sortBy_perm ltI ns).symm) (q.imp fun h => by unfold ltI; simp; exact h) (sortBy_asc strictI ns)
theorem risingS_asc : ∀ (x : Str) (r : List Str), PyProof.Rows.risingS x r = true → Asc sLt (x :: r)
  | x, [], _ => List.pairwise_singleton _ _
  | x, y :: r, h => by
    unfold PyProof.Rows.risingS at h
    rw [Bool.and_eq_true] at h
    have q := risingS_asc y r h.2
    have q' := List.pairwise_cons.mp q
    have hy : sLt y x = false := by
      have := h.1
      rw [ltCps_eq] at this
      unfold sLt
      simpa using this
    refine List.pairwise_cons.mpr ⟨fun z hz => ?_, q⟩
    rcases List.mem_cons.mp hz with e | e
    · subst e; exact hy
    · have h1 := q'.1 z e
      cases e1 : sLt z x with
      | false => rfl
      | true =>
        cases e2 : sLt y z with
        | true => have := strictS.tr y z x e2 e1; rw [hy] at this; cases this
        | false =>
          have := strictS.to y z e2 h1
          subst this
          rw [hy] at e1
          cases e1
theorem sortS_of {ns ms : List Str} (p : ms.Perm ns) (q : PyProof.Rows.sortedS ms = true) : ms = sortS ns := by
  refine asc_unique strictS (p.trans (sortBy_perm sLt ns).symm) ?_ (sortBy_asc strictS ns)
  cases ms with
  | nil => exact List.Pairwise.nil
  | cons x r => exact risingS_asc x r q
def allInt : List D → Option (List Int)
  | [] => some []
  | .int s :: r => (allInt r).map (s :: ·)
  | _ => none
theorem allInt_ok {Γ : Gam} {M : Addr → Prop} {H : Hp} : ∀ {vs : List V} {ds : List D} {ys : List Int}, Dats Γ M H vs ds → allInt ds = some ys → vs = ys.map V.int
  | _, _, _, .nil, e => by cases e; rfl
  | _, _, _, .cons (d := d) (ds := ds) h r, e => by
    cases d with
    | int b =>
      unfold allInt at e
      cases g : allInt ds with
      | none => rw [g] at e; cases e
      | some es =>
        rw [g] at e
        cases e
        cases h
        rw [allInt_ok r g]
        rfl
    | _ => cases e
theorem ints_dats {Γ : Gam} {M : Addr → Prop} {H : Hp} (ns : List Int) : Dats Γ M H (ns.map V.int) (ns.map D.int) := dats_ints ns
def pSorted {Γ : Gam} (x : Sl Γ) : Option (Sl Γ) :=
  match x.view with
  | some (.lst ds) => match allInt ds with
    | some ns => some (.lst ((sortI ns).map .int))
    | none => match allStr ds with
      | some ss => if ss.length < 64 then some (.lst ((sortS ss).map .str)) else none
      | none => none
  | _ => none
theorem b_sorted {Γ : Gam} {X : Cx} : Blt Γ X (.builtin "sorted") (pN1 pSorted) := by
  refine ⟨_, fun g => CallR.imp (CallR.or cr_sortedI cr_sortedS) fun xs H Q h => ?_, pN1_ok (r := fun x H Q => (∃ (a : Addr) (ns : List Int), x = V.ref a ∧ SqL Γ.K H a (ns.map V.int) ∧ ∀ (ns' : List Int) (p : Addr), ns'.Perm ns → ns'.Pairwise (· ≤ ·) → H p = none → Q (.ref p) (upd H p (.lst (ns'.map V.int)))) ∨
    ∃ (a : Addr) (xs : List Str), x = V.ref a ∧ SqL Γ.K H a (xs.map V.str) ∧ xs.length < 64 ∧ ∀ (ys : List Str) (p : Addr), ys.Perm xs → PyProof.Rows.sortedS ys = true → H p = none → Q (.ref p) (upd H p (.lst (ys.map V.str)))) ?_⟩
  · obtain ⟨x, e, h⟩ := h
    rcases h with ⟨a, ns, h1, h2, h3⟩ | ⟨a, ns, h1, h2, h3, h4⟩
    · subst h1; exact .inl ⟨a, ns, e, by rw [← g.k]; exact h2, h3⟩
    · subst h1; exact .inr ⟨a, ns, e, by rw [← g.k]; exact h2, h3, h4⟩
  · intro M H x sx s Gx Q dom hp hx k
    unfold pSorted at hp
    split at hp
    · rename_i ds g1
      obtain ⟨p, vs, rfl, hq, r⟩ := hx.list g1
      split at hp
      · rename_i ns g2
        cases hp
        have ev := allInt_ok r g2
        subst ev
        refine .inl ⟨p, ns, rfl, hq, fun ns' p' h1 h2 h3 => ?_⟩
        rw [sortI_of h1 h2]
        exact k.lst (dats_ints _) h3
      · split at hp
        · rename_i ss g2
          split at hp
          · rename_i hl
            cases hp
            have ev := allStr_ok r g2
            subst ev
            refine .inr ⟨p, ss, rfl, hq, hl, fun ns' p' h1 h2 h3 => ?_⟩
            rw [sortS_of h1 h2]
            exact k.lst (strs_dats _) h3
          · cases hp
        · cases hp
    · cases hp
end G

/-! G15: places (a slot, an attribute of an instance in a slot), operands that change nothing, dicts -/
namespace G
open PySem L2

inductive Pl where
  | sl (i : Nat) | fl (i : Nat) (f : Str)
inductive QE where
  | pl (p : Pl) | cst (d : D)
def Fd.sl {Γ : Gam} : Fd → Sl Γ
  | .dat d => .dat d
  | .lst ds => .lst ds
  | .dic kvs => .dic kvs
def Gam.has (Γ : Gam) (c : Nat) (f : Str) : Bool := match Γ.cls c with | some (_, ns) => ns.contains f | none => false
def getP {Γ : Gam} : Pl → Env Γ → Option (Sl Γ)
  | .sl i, env => got env[i]?
  | .fl i f, env => match env[i]? with
    | some (.ins c fs) => if Γ.has c f = true then (fs.lookup f).map Fd.sl else none
    | some (.dat (.ins c ds)) => match Γ.cls c with
      | some (_, ns) => ((ns.zip ds).lookup f).map .dat
      | none => none
    | _ => none
def evQ {Γ : Gam} : QE → Env Γ → Option (Sl Γ)
  | .pl p, env => getP p env
  | .cst d, _ => some (.dat d)
/-- the place p holds v -/
def PR (w : Wd) (σ : St) (v : V) : Pl → Prop
  | .sl i => σ[i]? = some (some v)
  | .fl i f => ∃ a C dx fsV, σ[i]? = some (some (.ref a)) ∧ w.H a = some (.ins C dx fsV) ∧ fsV.lookup f = some v
def QV (w : Wd) (σ : St) (v : V) : QE → Prop
  | .pl p => PR w σ v p
  | .cst _ => True
/-- an expression that changes nothing -/
def SdQ (Γ : Gam) (X : Cx) (e : Expr) (q : QE) : Prop := Gd Γ X → ∀ (σ : St) (env : Env Γ) (s : Sl Γ) (w : Wd) (Q : VK), evQ q env = some s → ER Γ w σ env → (∀ v G, SR Γ w.M w.H v s G → QV w σ v q → Q v w.H) → wE X e σ w.H Q
section
variable {Γ : Gam} {X : Cx} {A : List Nat} {σ : St} {env env' : Env Γ} {w : Wd} {e a b c : Expr} {pos : Pos} {q q1 q2 q3 : QE}
theorem FdR.sr {M : Addr → Prop} {H : Hp} {v : V} {x : Fd} {G : Addr → Prop} (h : FdR Γ M H v x G) : SR Γ M H v x.sl G := by
  cases x with
  | dat d => exact h
  | lst ds => exact h
  | dic kvs => exact h
theorem FdRs.look {M : Addr → Prop} {H : Hp} {f : Str} {x : Fd} : ∀ {vs : List (Str × V)} {fs : List (Str × Fd)} {G : Addr → Prop}, FdRs Γ M H vs fs G → fs.lookup f = some x → ∃ v G1, vs.lookup f = some v ∧ FdR Γ M H v x G1 ∧ ∀ a, G1 a → G a
  | _, _, _, .nil _, e => by cases e
  | _, _, _, .cons (n := n) h r d eq, e => by
    rw [List.lookup_cons] at e ⊢
    by_cases hn : (f == n) = true
    · rw [hn] at e ⊢
      cases e
      exact ⟨_, _, rfl, h, fun a z => (eq a).mpr (.inl z)⟩
    · have hn' : (f == n) = false := by cases q : (f == n) with | false => rfl | true => exact absurd q hn
      rw [hn'] at e ⊢
      obtain ⟨v, G1, e1, h1, h2⟩ := FdRs.look r e
      exact ⟨v, G1, e1, h1, fun a z => (eq a).mpr (.inr (h2 a z))⟩
theorem zip_look {M : Addr → Prop} {H : Hp} {f : Str} {d : D} : ∀ {ns : List Str} {vs : List V} {ds : List D}, Dats Γ M H vs ds → (ns.zip ds).lookup f = some d → ∃ v, (ns.zip vs).lookup f = some v ∧ Dat Γ M H v d
  | [], vs, ds, r, e => by cases e
  | n :: ns, _, _, .nil, e => by cases e
  | n :: ns, _, _, .cons h r, e => by
    rw [List.zip_cons_cons, List.lookup_cons] at e
    rw [List.zip_cons_cons, List.lookup_cons]
    cases hn : (f == n) with
    | true => rw [hn] at e; cases e; exact ⟨_, rfl, h⟩
    | false => rw [hn] at e; exact zip_look r e
theorem lookup_mem {α : Type} {f : Str} {x : α} : ∀ {ns : List Str} {xs : List α}, (ns.zip xs).lookup f = some x → ns.contains f = true
  | [], xs, e => by cases e
  | n :: ns, [], e => by cases e
  | n :: ns, y :: xs, e => by
    rw [List.zip_cons_cons, List.lookup_cons] at e
    cases hn : (f == n) with
    | true => rw [List.contains_cons, hn]; rfl
    | false => rw [hn] at e; rw [List.contains_cons, hn, Bool.false_or]; exact lookup_mem e
/-- the instance that slot i holds, its attribute f -/
theorem ER.fld (E : ER Γ w σ env) {i : Nat} {f : Str} {s : Sl Γ} (h : getP (.fl i f) env = some s) : ∃ a c C ns dx fsV v G, Γ.cls c = some (C, ns) ∧ ns.contains f = true ∧ σ[i]? = some (some (.ref a)) ∧ w.H a = some (.ins C dx fsV) ∧ fsV.lookup f = some v ∧ SR Γ w.M w.H v s G := by
  simp only [getP] at h
  split at h
  · rename_i c fs g
    split at h
    · rename_i hc
      cases g2 : fs.lookup f with
      | none => rw [g2] at h; cases h
      | some x =>
        rw [g2] at h
        cases h
        obtain ⟨v, ev, a, C, ns, dx, vs, G, rfl, hC, ha, r, _, _⟩ := E.at (i := i) (s := .ins c fs) (by rw [g]; rfl)
        obtain ⟨u, G1, e1, h1, _⟩ := r.look g2
        unfold Gam.has at hc
        rw [hC] at hc
        exact ⟨a, c, C, ns, dx, vs, u, G1, hC, hc, ev, ha, e1, h1.sr⟩
    · cases h
  · rename_i c ds g
    split at h
    · rename_i C ns hC
      cases g2 : (ns.zip ds).lookup f with
      | none => rw [g2] at h; cases h
      | some d =>
        rw [g2] at h
        cases h
        obtain ⟨v, ev, rv, _⟩ := E.at (i := i) (s := .dat (.ins c ds)) (by rw [g]; rfl)
        cases rv with
        | @ins a C' dx _ ns' vs _ e1 n ha hl r =>
          rw [hC] at e1
          cases e1
          obtain ⟨u, eu, hu⟩ := zip_look r g2
          exact ⟨a, c, C, ns, dx, _, u, fun _ => False, hC, lookup_mem g2, ev, ha, eu, hu, fun _ z => z⟩
    · cases h
  · cases h
theorem sdq_var (i : Nat) {x : Str} (hN : X.N[i]? = some x := by rfl) (hv : Vis X.env.scope x := by first | exact Or.inl rfl | exact Or.inr (Or.inl rfl) | exact Or.inr (Or.inr rfl)) (hd : (x == ("__debug__" : Str)) = false := by decide) (hcd : (x == ("__classdict__" : Str)) = false := by decide) :
    SdQ Γ X (.Name x pos) (.pl (.sl i)) := by
  intro hK σ env s w Q he E k
  obtain ⟨v, ev, rv⟩ := E.at (show got env[i]? = some s from he)
  exact wE.of (pe_var hN hv hd hcd) ⟨v, ev, k v _ rv ev⟩
/-- every class of ours that has the attribute has it in its instances alone -/
def FldOk (Γ : Gam) (f : Str) : Prop := ∀ c C ns, Γ.cls c = some (C, ns) → ns.contains f = true → Cls Γ.K C ∧ NoAttr Γ.K C f
theorem sdq_fld (i : Nat) {x f : Str} {npos : Pos} (hF : FldOk Γ f) (hN : X.N[i]? = some x := by rfl) (hv : Vis X.env.scope x := by first | exact Or.inl rfl | exact Or.inr (Or.inl rfl) | exact Or.inr (Or.inr rfl)) (hd : (x == ("__debug__" : Str)) = false := by decide) (hcd : (x == ("__classdict__" : Str)) = false := by decide)
    (hbase : attributeBase (.Name x npos) f X.env (eval (.Name x npos) X.env) = eval (.Name x npos) X.env := by rfl) : SdQ Γ X (.Attribute (.Name x npos) f pos) (.pl (.fl i f)) := by
  intro hK σ env s w Q he E k
  obtain ⟨a, c, C, ns, dx, fsV, v, G, hC, hc, ev, ha, el, rv⟩ := E.fld (show getP (.fl i f) env = some s from he)
  obtain ⟨c1, c2⟩ := hF c C ns hC hc
  exact wE.of (pe_fld (pe_var hN hv hd hcd) hbase) ⟨_, ev, a, C, dx, fsV, v, rfl, ha, hK.k ▸ c1, hK.k ▸ c2, el, k v G rv ⟨a, C, dx, fsV, ev, ha, el⟩⟩
theorem sdq_c {v : V} {d : D} (h : PE X e (tC v)) (hd : ∀ M H, Dat Γ M H v d) : SdQ Γ X e (.cst d) := by
  intro hK σ env s w Q he E k
  cases he
  exact wE.of h (k v (fun _ => False) ⟨hd _ _, fun _ z => z⟩ trivial)
theorem sdq_int {i j} : SdQ Γ X (.Constant (.int i) j pos) (.cst (.int i)) := sdq_c pe_int fun _ _ => .int _
theorem sdq_bl {b j} : SdQ Γ X (.Constant (.bool b) j pos) (.cst (.bl b)) := sdq_c pe_bl fun _ _ => .bl _
theorem sdq_non {j} : SdQ Γ X (.Constant .none j pos) (.cst .non) := sdq_c pe_non fun _ _ => .non
theorem sdq_str {x j} : SdQ Γ X (.Constant (.str x) j pos) (.cst (.str x)) := sdq_c pe_str fun _ _ => .str _
/-- a quiet expression's data as a value -/
def mQ {Γ : Gam} (q : QE) : Ev Γ := fun env =>
  match evQ q env with
  | some (.dat d) => some (.dat d, env)
  | _ => none
theorem sd_q (h : SdQ Γ X e q) : SdE Γ X e (mQ q) := by
  intro hK σ env r env' w Q he E k
  unfold mQ at he
  split at he
  · rename_i d g
    cases he
    exact h hK σ env _ w Q g E fun v G rv _ => k v w (fun _ => False) E ⟨⟨rv.1, fun _ z => z⟩, fun _ z => z.elim, fun _ _ z => z.elim⟩ (Step.refl w) fun _ z => z.elim
  · cases he
/-- one, two quiet operands -/
def mQ1 {Γ : Gam} (p : Sl Γ → Option (Sl Γ)) (q : QE) : Ev Γ := fun env =>
  match evQ q env with
  | none => none
  | some s => (p s).map fun r => (r, env)
def mQ2 {Γ : Gam} (p : Sl Γ → Sl Γ → Option (Sl Γ)) (q1 q2 : QE) : Ev Γ := fun env =>
  match evQ q1 env, evQ q2 env with
  | some s, some t => (p s t).map fun r => (r, env)
  | _, _ => none
theorem runQ1 {r : V → Hp → VK → Prop} {p : Sl Γ → Option (Sl Γ)} {s : Sl Γ} {Q : VK} (hp : Prim1 Γ r p) (ha : SdQ Γ X a q) (hK : Gd Γ X) (he : mQ1 p q env = some (s, env')) (E : ER Γ w σ env)
    (k : ∀ v w' Fr, ER Γ w' σ env' → TR Γ w' v s Fr → Step w w' → Fresh w Fr → Q v w'.H) : wE X a σ w.H fun x H1 => r x H1 Q := by
  unfold mQ1 at he
  split at he
  · cases he
  · rename_i s1 g1
    cases g2 : p s1 with
    | none => rw [g2] at he; cases he
    | some r1 =>
      rw [g2] at he
      cases he
      exact ha hK σ env _ w _ g1 E fun v G rv _ => hp w.M w.H v s1 s G Q E.dom g2 rv (res_of E k)
theorem runQ2 {r : R2} {p : Sl Γ → Sl Γ → Option (Sl Γ)} {s : Sl Γ} {Q : VK} (hp : Prim2 Γ r p) (ha : SdQ Γ X a q1) (hb : SdQ Γ X b q2) (hK : Gd Γ X) (he : mQ2 p q1 q2 env = some (s, env')) (E : ER Γ w σ env)
    (k : ∀ v w' Fr, ER Γ w' σ env' → TR Γ w' v s Fr → Step w w' → Fresh w Fr → Q v w'.H) : wE X a σ w.H fun x H1 => wE X b σ H1 fun y H2 => r x y H2 Q := by
  unfold mQ2 at he
  split at he
  · rename_i s1 s2 g1 g2
    cases g3 : p s1 s2 with
    | none => rw [g3] at he; cases he
    | some r1 =>
      rw [g3] at he
      cases he
      exact ha hK σ env _ w _ g1 E fun v G rv _ => hb hK σ env _ w _ g2 E fun u G2 ru _ => hp w.M w.H v u s1 s2 s G G2 Q E.dom g3 rv ru (res_of E k)
  · cases he

/-! ### dicts: keys are ints and texts -/
def keyOf : D → Option Key
  | .int i => some (.inl i)
  | .str s => some (.inr s)
  | _ => none
def lookD (kvs : List (Key × D)) (k : Key) : Option D := (kvs.find? fun kv => decide (kv.1 = k)).map (·.2)
def putD (kvs : List (Key × D)) (k : Key) (v : D) : List (Key × D) :=
  if (kvs.any fun kv => decide (kv.1 = k)) = true then kvs.map (fun kv => if kv.1 = k then (kv.1, v) else kv) else kvs ++ [(k, v)]
theorem keyOf_dat {M : Addr → Prop} {H : Hp} {v : V} {d : D} {k : Key} (h : Dat Γ M H v d) (e : keyOf d = some k) : v = kV k := by
  cases h <;> cases e <;> rfl
theorem KDats.look {M : Addr → Prop} {H : Hp} {k : Key} : ∀ {vs : List (Key × V)} {kvs : List (Key × D)}, KDats Γ M H vs kvs → (lookD kvs k = none ∧ valV vs k = none) ∨ ∃ d v, lookD kvs k = some d ∧ valV vs k = some v ∧ Dat Γ M H v d
  | _, _, .nil => .inl ⟨rfl, rfl⟩
  | _, _, .cons (k := n) (v := v) (d := d) h r => by
    by_cases e : n = k
    · exact .inr ⟨d, v, by simp [lookD, List.find?_cons, e], by rw [valV_pos e], h⟩
    · rcases KDats.look (k := k) r with ⟨h1, h2⟩ | ⟨d', v', h1, h2, h3⟩
      · exact .inl ⟨by rw [← h1]; simp [lookD, List.find?_cons, e], by rw [valV_neg e, h2]⟩
      · exact .inr ⟨d', v', by rw [← h1]; simp [lookD, List.find?_cons, e], by rw [valV_neg e, h2], h3⟩
theorem KDats.length {M : Addr → Prop} {H : Hp} : ∀ {vs : List (Key × V)} {kvs : List (Key × D)}, KDats Γ M H vs kvs → vs.length = kvs.length
  | _, _, .nil => rfl
  | _, _, .cons h r => by rw [List.length_cons, List.length_cons, KDats.length r]
theorem KDats.keys {M : Addr → Prop} {H : Hp} : ∀ {vs : List (Key × V)} {kvs : List (Key × D)}, KDats Γ M H vs kvs → vs.map (·.1) = kvs.map (·.1)
  | _, _, .nil => rfl
  | _, _, .cons h r => by rw [List.map_cons, List.map_cons, KDats.keys r]
theorem KDats.snoc {M : Addr → Prop} {H : Hp} {k : Key} {v : V} {d : D} (h : Dat Γ M H v d) : ∀ {vs : List (Key × V)} {kvs : List (Key × D)}, KDats Γ M H vs kvs → KDats Γ M H (vs ++ [(k, v)]) (kvs ++ [(k, d)])
  | _, _, .nil => .cons h .nil
  | _, _, .cons q r => .cons q (KDats.snoc h r)
theorem KDats.setAll {M : Addr → Prop} {H : Hp} {k : Key} {v : V} {d : D} (h : Dat Γ M H v d) : ∀ {vs : List (Key × V)} {kvs : List (Key × D)}, KDats Γ M H vs kvs → KDats Γ M H (vs.map fun kv => if kv.1 = k then (kv.1, v) else kv) (kvs.map fun kv => if kv.1 = k then (kv.1, d) else kv)
  | _, _, .nil => .nil
  | _, _, .cons (k := n) q r => by
    rw [List.map_cons, List.map_cons]
    by_cases e : n = k
    · simp only [e, if_true]; exact .cons h (KDats.setAll h r)
    · simp only [e, if_false]; exact .cons q (KDats.setAll h r)
theorem KDats.any {M : Addr → Prop} {H : Hp} {k : Key} : ∀ {vs : List (Key × V)} {kvs : List (Key × D)}, KDats Γ M H vs kvs → (vs.any fun kv => decide (kv.1 = k)) = kvs.any fun kv => decide (kv.1 = k)
  | _, _, .nil => rfl
  | _, _, .cons q r => by rw [List.any_cons, List.any_cons, KDats.any r]
theorem KDats.put {M : Addr → Prop} {H : Hp} {k : Key} {v : V} {d : D} (h : Dat Γ M H v d) {vs : List (Key × V)} {kvs : List (Key × D)} (r : KDats Γ M H vs kvs) : KDats Γ M H (putK vs k v) (putD kvs k d) := by
  unfold putK putD
  rw [r.any]
  split
  · exact r.setAll h
  · exact r.snoc h
theorem SR.dic {M : Addr → Prop} {H : Hp} {v : V} {G : Addr → Prop} {kvs : List (Key × D)} (h : SR Γ M H v (.dic kvs) G) : ∃ p vs, v = .ref p ∧ H p = some (.dK vs) ∧ KDats Γ M H vs kvs := by
  obtain ⟨p, vs, e, hp, r, _⟩ := h
  exact ⟨p, vs, e, hp, r⟩
def pDGet {Γ : Gam} (x y : Sl Γ) : Option (Sl Γ) :=
  match x, y with
  | .dic kvs, .dat kd => match keyOf kd with
    | some k => (lookD kvs k).map .dat
    | none => none
  | _, _ => none
theorem pDGet_ok : Prim2 Γ (fun x y H Q => ∃ a v, x = .ref a ∧ DGet H a y (some v) ∧ Q v H) (pDGet (Γ := Γ)) := by
  intro M H x y sx sy s Gx Gy Q dom hp hx hy k
  unfold pDGet at hp
  split at hp
  · rename_i kvs kd
    split at hp
    · rename_i kk g
      obtain ⟨p, vs, rfl, hp', r⟩ := hx.dic
      rcases r.look (k := kk) with ⟨h1, _⟩ | ⟨d, v, h1, h2, h3⟩
      · rw [h1] at hp; cases hp
      · rw [h1] at hp
        cases hp
        refine ⟨p, v, rfl, ?_, k.dat h3⟩
        rw [keyOf_dat hy.1 g, ← h2]
        exact DGet.k hp'
    · cases hp
  · cases hp
def pDInG {Γ : Gam} (f : Bool → Bool) (x y : Sl Γ) : Option (Sl Γ) :=
  match x, y with
  | .dat kd, .dic kvs => match keyOf kd with
    | some k => some (db (f (lookD kvs k).isSome))
    | none => none
  | _, _ => none
theorem pDInG_ok {f : Bool → Bool} : Prim2 Γ (fun y x H Q => ∃ a o, x = .ref a ∧ DGet H a y o ∧ Q (.bl (f o.isSome)) H) (pDInG (Γ := Γ) f) := by
  intro M H x y sx sy s Gx Gy Q dom hp hx hy k
  unfold pDInG at hp
  split at hp
  · rename_i kd kvs
    split at hp
    · rename_i kk g
      cases hp
      obtain ⟨p, vs, rfl, hp', r⟩ := hy.dic
      refine ⟨p, valV vs kk, rfl, by rw [keyOf_dat hx.1 g]; exact DGet.k hp', ?_⟩
      rcases r.look (k := kk) with ⟨h1, h2⟩ | ⟨d, v, h1, h2, h3⟩
      · rw [h1] at k; rw [h2]; exact k.dat (.bl _)
      · rw [h1] at k; rw [h2]; exact k.dat (.bl _)
    · cases hp
  · cases hp
def pDIn {Γ : Gam} : Sl Γ → Sl Γ → Option (Sl Γ) := pDInG id
def pDNotIn {Γ : Gam} : Sl Γ → Sl Γ → Option (Sl Γ) := pDInG not
theorem Gd.hu (g : Gd Γ X) : X.A.units + 1 < cLine := Nat.lt_of_le_of_lt (Nat.add_le_add_left (by decide) _) g.un
theorem sd_dget (ha : SdQ Γ X a q1) (hb : SdQ Γ X b q2) (hs : NoSl b := by exact fun _ _ => rfl) : SdE Γ X (.Subscript a b pos) (mQ2 pDGet q1 q2) :=
  fun hK σ env r env' w Q he E k => wE.of (pe_dget hK.hu pe_wE pe_wE hs) (runQ2 pDGet_ok ha hb hK he E k)
theorem sd_din (ha : SdQ Γ X a q1) (hb : SdQ Γ X b q2) (hm : behindInMarks .In b = false := by rfl) : SdE Γ X (.Compare a [.In] [b] pos) (mQ2 pDIn q1 q2) :=
  fun hK σ env r env' w Q he E k => wE.of (pe_cmp (pc_din hK.hu pe_wE pe_wE) hm) (runQ2 pDInG_ok ha hb hK he E k)
theorem sd_dni (ha : SdQ Γ X a q1) (hb : SdQ Γ X b q2) (hm : behindInMarks .NotIn b = false := by rfl) : SdE Γ X (.Compare a [.NotIn] [b] pos) (mQ2 pDNotIn q1 q2) :=
  fun hK σ env r env' w Q he E k => wE.of (pe_cmp (pc_dnotin hK.hu pe_wE pe_wE) hm) (runQ2 pDInG_ok ha hb hK he E k)
theorem sdt_din (ha : SdQ Γ X a q1) (hb : SdQ Γ X b q2) (hm : behindInMarks .In b = false := by rfl) : SdT Γ X (.Compare a [.In] [b] pos) (toT (mQ2 pDIn q1 q2)) :=
  fun hK σ env r env' w Q he E k => wT.of (pt_cmp (pc_din hK.hu pe_wE pe_wE) hm) (runQ2 (Q := fun x H1 => ∃ c, x = V.bl c ∧ Q c H1) pDInG_ok ha hb hK (toT_some he) E fun v w' Fr E' T p' f => ⟨r, T.bl, k w' E' p'⟩)
theorem sdt_dni (ha : SdQ Γ X a q1) (hb : SdQ Γ X b q2) (hm : behindInMarks .NotIn b = false := by rfl) : SdT Γ X (.Compare a [.NotIn] [b] pos) (toT (mQ2 pDNotIn q1 q2)) :=
  fun hK σ env r env' w Q he E k => wT.of (pt_cmp (pc_dnotin hK.hu pe_wE pe_wE) hm) (runQ2 (Q := fun x H1 => ∃ c, x = V.bl c ∧ Q c H1) pDInG_ok ha hb hK (toT_some he) E fun v w' Fr E' T p' f => ⟨r, T.bl, k w' E' p'⟩)
/-- {} -/
def mDNew {Γ : Gam} : Ev Γ := fun env => some (.dic [], env)
theorem sd_dnew : SdE Γ X (.Dict [] [] pos) mDNew := by
  intro hK σ env r env' w Q he E k
  cases he
  refine wE.of pe_dnewK fun p hp => ?_
  refine res_of E k (.ref p) _ (fun a => a = p) (upd_keep hp) (fun a z => by subst z; exact ⟨hp, by rw [upd_same]; simp⟩) ⟨p, [], rfl, upd_same, .nil, fun a => Iff.rfl⟩
end
end G

/-! G16: dicts and attributes that are changed -/
namespace G
open PySem L2

def putFd (f : Str) (x : Fd) : List (Str × Fd) → List (Str × Fd)
  | [] => [(f, x)]
  | (n, y) :: r => if n = f then (n, x) :: r else (n, y) :: putFd f x r
def setD {Γ : Gam} (kvs : List (Key × D)) : Pl → Env Γ → Option (Env Γ)
  | .sl i, env => some (env.set i (.dic kvs))
  | .fl i f, env => match env[i]? with
    | some (.ins c fs) => some (env.set i (.ins c (putFd f (.dic kvs) fs)))
    | _ => none
section
variable {Γ : Gam} {X : Cx} {A : List Nat} {σ : St} {env env' : Env Γ} {w : Wd} {e a b c : Expr} {pos : Pos} {q q1 q2 q3 : QE}
/-- what slot i owns is changed -/
theorem ER.chg (E : ER Γ w σ env) {i : Nat} {v : V} {s' : Sl Γ} {Fi : Addr → Prop} {H' : Hp} (hv : σ[i]? = some (some v)) (keep : ∀ a u, ¬ w.F i a → w.H a = some u → H' a = some u) (live : ∀ a, w.H a ≠ none → H' a ≠ none)
    (hF : ∀ a, Fi a → w.M a ∧ ∀ j, j ≠ i → ¬ w.F j a) (r : SR Γ w.M H' v s' Fi) : ER Γ ⟨w.M, fun j a => if j = i then Fi a else w.F j a, H'⟩ σ (env.set i s') := by
  have il : i < env.length := by rw [E.len]; exact (List.getElem?_eq_some_iff.mp hv).1
  have g : Go w.M w.H w.M H' := ⟨fun a u n e => keep a u (fun z => n (E.sub i a z)) e, fun _ n _ => n⟩
  refine ⟨by rw [List.length_set]; exact E.len, fun j s hj => ?_, fun j a f => ?_, fun j k a f f' => ?_, fun a m => live a (E.dom a m), fun j hj a f => ?_⟩
  · by_cases e : j = i
    · subst e
      rw [List.getElem?_set_self il] at hj
      cases hj
      have ef : (fun a => if j = j then Fi a else w.F j a) = Fi := by funext a; rw [if_pos rfl]
      refine .inr ⟨v, hv, ?_⟩
      show SR Γ w.M H' v s' (fun a => if j = j then Fi a else w.F j a)
      rw [ef]
      exact r
    · rw [List.getElem?_set_ne (Ne.symm e)] at hj
      have ef : (fun a => if j = i then Fi a else w.F j a) = w.F j := by funext a; rw [if_neg e]
      rcases E.slot j s hj with ⟨z1, z2⟩ | ⟨u, eu, ru⟩
      · refine .inl ⟨z1, fun a f => ?_⟩
        have f' : (if j = i then Fi a else w.F j a) := f
        rw [if_neg e] at f'
        exact z2 a f'
      · refine .inr ⟨u, eu, ?_⟩
        show SR Γ w.M H' u s (fun a => if j = i then Fi a else w.F j a)
        rw [ef]
        exact ru.go g fun a o f q => keep a o (fun z => e (E.dis j i a f z)) q
  · have f' : (if j = i then Fi a else w.F j a) := f
    split at f'
    · exact (hF a f').1
    · exact E.sub j a f'
  · have g1 : (if j = i then Fi a else w.F j a) := f
    have g2 : (if k = i then Fi a else w.F k a) := f'
    split at g1
    · rename_i e1
      split at g2
      · rename_i e2; rw [e1, e2]
      · rename_i e2; exact absurd g2 ((hF a g1).2 k e2)
    · rename_i e1
      split at g2
      · exact absurd g1 ((hF a g2).2 j e1)
      · exact E.dis j k a g1 g2
  · have g1 : (if j = i then Fi a else w.F j a) := f
    rw [List.length_set] at hj
    split at g1
    · omega
    · exact E.out j hj a g1
theorem FdRs.keep {M : Addr → Prop} {H H' : Hp} {p : Addr} (mp : M p) : ∀ {vs : List (Str × V)} {fs : List (Str × Fd)} {G : Addr → Prop}, FdRs Γ M H vs fs G → ¬ G p → (∀ b, b ≠ p → H' b = H b) → FdRs Γ M H' vs fs G
  | _, _, _, .nil h, _, _ => .nil h
  | _, _, _, .cons h r d eq, n, k => by
    have g : Go M H M H' := ⟨fun b u nb e => by rw [k b (fun z => nb (z ▸ mp))]; exact e, fun _ nb _ => nb⟩
    exact .cons (h.go g fun b u z e => by rw [k b (fun z' => n ((eq p).mpr (.inl (z' ▸ z))))]; exact e) (FdRs.keep mp r (fun z => n ((eq p).mpr (.inr z))) k) d eq
/-- the dict of an attribute is written -/
theorem FdRs.putDic {M : Addr → Prop} {H : Hp} {f : Str} {kvs kvs' : List (Key × D)} {p : Addr} {vs' : List (Key × V)} (mp : M p) (r' : KDats Γ M H vs' kvs') : ∀ {vs : List (Str × V)} {fs : List (Str × Fd)} {G : Addr → Prop}, FdRs Γ M H vs fs G → fs.lookup f = some (.dic kvs) → vs.lookup f = some (.ref p) →
    G p ∧ FdRs Γ M (upd H p (.dK vs')) vs (putFd f (.dic kvs') fs) G
  | _, _, _, .nil _, e, _ => by cases e
  | _, _, _, .cons (n := n) (v := v) (x := x) (xs := xs) h r d eq, e1, e2 => by
    rw [List.lookup_cons] at e1 e2
    have go : Go M H M (upd H p (.dK vs')) := ⟨fun b u nb e => by rw [upd_ne (fun (z : b = p) => nb (z ▸ mp))]; exact e, fun _ nb _ => nb⟩
    cases hn : (f == n) with
    | true =>
      rw [hn] at e1 e2
      cases e1
      cases e2
      have en : n = f := (beq_iff_eq.mp hn).symm
      obtain ⟨q, us, eq1, hq, ru, nG⟩ := h
      cases eq1
      refine ⟨(eq p).mpr (.inl ((nG p).mpr rfl)), ?_⟩
      unfold putFd
      rw [if_pos en]
      exact .cons ⟨p, vs', rfl, upd_same, r'.go go, nG⟩ (r.keep mp (fun z => d p ((nG p).mpr rfl) z) fun b nb => upd_ne nb) d eq
    | false =>
      rw [hn] at e1 e2
      have en : ¬ n = f := fun z => by rw [z] at hn; simp at hn
      obtain ⟨gp, rr⟩ := FdRs.putDic mp r' r e1 e2
      refine ⟨(eq p).mpr (.inr gp), ?_⟩
      unfold putFd
      rw [if_neg en]
      refine .cons (h.go go fun b u z e => ?_) rr d eq
      rw [upd_ne (fun (zz : b = p) => d b z (zz ▸ gp))]
      exact e
theorem ER.putDic (E : ER Γ w σ env) {pl : Pl} {kvs kvs' : List (Key × D)} {p : Addr} {vs' : List (Key × V)} {env2 : Env Γ} (h : getP pl env = some (.dic kvs)) (hp : PR w σ (.ref p) pl) (r : KDats Γ w.M w.H vs' kvs') (hs : setD kvs' pl env = some env2) :
    ∃ w', w'.H = upd w.H p (.dK vs') ∧ ER Γ w' σ env2 ∧ Step w w' := by
  cases pl with
  | sl i =>
    cases hs
    obtain ⟨v, ev, q, us, rfl, hq, ru, n⟩ := E.at (show got env[i]? = some (.dic kvs) from h)
    have hp' : σ[i]? = some (some (.ref p)) := hp
    have eqp : q = p := by rw [ev] at hp'; cases hp'; rfl
    subst eqp
    have mp : w.M q := E.sub i q ((n q).mpr rfl)
    have g : Go w.M w.H w.M (upd w.H q (.dK vs')) := ⟨fun b u nb e => by rw [upd_ne (fun (z : b = q) => nb (z ▸ mp))]; exact e, fun _ nb _ => nb⟩
    have lv : ∀ b, w.H b ≠ none → upd w.H q (.dK vs') b ≠ none := fun b hb => by
      by_cases z : b = q
      · rw [z, upd_same]; simp
      · rw [upd_ne z]; exact hb
    refine ⟨⟨w.M, fun j a => if j = i then w.F i a else w.F j a, upd w.H q (.dK vs')⟩, rfl, E.chg (s' := .dic kvs') (Fi := w.F i) ev (fun b u nb e => by rw [upd_ne (fun (z : b = q) => nb ((n b).mpr z))]; exact e) lv (fun a f => ⟨E.sub i a f, fun j hj z => hj (E.dis j i a z f)⟩) ⟨q, vs', rfl, upd_same, r.go g, n⟩,
      ⟨fun b u nb e => ?_, fun _ _ m => m, fun _ m => .inl m, fun j b f => ?_, lv⟩⟩
    · show upd w.H q (.dK vs') b = some u
      rw [upd_ne (fun (z : b = q) => nb i ((n b).mpr z))]
      exact e
    · have f' : (if j = i then w.F i b else w.F j b) := f
      split at f'
      · exact .inl ⟨i, f'⟩
      · exact .inl ⟨j, f'⟩
  | fl i f =>
    simp only [setD] at hs
    split at hs
    · rename_i c fs g0
      cases hs
      simp only [getP, g0] at h
      split at h
      · cases g2 : fs.lookup f with
        | none => rw [g2] at h; cases h
        | some x =>
          rw [g2] at h
          have ex : x = .dic kvs := by
            cases x with
            | dat d => cases h
            | lst ds => cases h
            | dic k => cases h; rfl
          subst ex
          obtain ⟨v, ev, a, C, ns, dx, vs, G, rfl, hC, ha, rs, nG, hFr⟩ := E.at (i := i) (s := .ins c fs) (by rw [g0]; rfl)
          obtain ⟨a', C', dx', fsV, ev', ha', el⟩ := hp
          have ea : a = a' := by rw [ev] at ev'; cases ev'; rfl
          subst ea
          rw [ha] at ha'
          cases ha'
          obtain ⟨u, G1, e1, h1, h2⟩ := rs.look g2
          rw [el] at e1
          cases e1
          obtain ⟨q, us, eq1, hq, ru, nq⟩ := h1
          cases eq1
          have fp : w.F i p := (hFr p).mpr (.inr (h2 p ((nq p).mpr rfl)))
          have mp : w.M p := E.sub i p fp
          obtain ⟨gp, rs'⟩ := rs.putDic mp r g2 el
          have nap : a ≠ p := fun z => nG (z ▸ gp)
          have lv : ∀ b, w.H b ≠ none → upd w.H p (.dK vs') b ≠ none := fun b hb => by
            by_cases z : b = p
            · rw [z, upd_same]; simp
            · rw [upd_ne z]; exact hb
          refine ⟨⟨w.M, fun j b => if j = i then w.F i b else w.F j b, upd w.H p (.dK vs')⟩, rfl, E.chg (s' := .ins c (putFd f (.dic kvs') fs)) (Fi := w.F i) ev (fun b u nb e => by rw [upd_ne (fun (z : b = p) => nb (z ▸ fp))]; exact e) lv (fun b f => ⟨E.sub i b f, fun j hj z => hj (E.dis j i b z f)⟩) ⟨a, C, ns, dx, vs, G, rfl, hC, by rw [upd_ne nap]; exact ha, rs', nG, hFr⟩,
            ⟨fun b u nb e => ?_, fun _ _ m => m, fun _ m => .inl m, fun j b f => ?_, lv⟩⟩
          · show upd w.H p (.dK vs') b = some u
            rw [upd_ne (fun (z : b = p) => nb i (z ▸ fp))]
            exact e
          · have f' : (if j = i then w.F i b else w.F j b) := f
            split at f'
            · exact .inl ⟨i, f'⟩
            · exact .inl ⟨j, f'⟩
      · cases h
    · cases hs
/-- d[k] = v -/
def mDPut {Γ : Gam} (pl : Pl) (qk : QE) (fe : Ev Γ) : Es Γ := fun env =>
  match fe env with
  | some (.dat d, env1) => match getP pl env1, evQ qk env1 with
    | some (.dic kvs), some (.dat kd) => match keyOf kd with
      | some k => if kvs.length < sizeLine then (setD (putD kvs k d) pl env1).map fun e => (.nx, e) else none
      | none => none
    | _, _ => none
  | _ => none
theorem sds_dput {pl : Pl} {fe : Ev Γ} {tpos : Pos} (ha : SdQ Γ X a (.pl pl)) (hb : SdQ Γ X b q2) (he' : SdE Γ X e fe) (hs : swapsWith e (some (.Subscript a b tpos)) pos.line X.env = pure false := by rfl) : SdS Γ X A (.Assign [.Subscript a b tpos] e pos) (mDPut pl q2 fe) := by
  intro hK σ env fl env' w D he E k
  refine wS.of (ps_dput hK.hu pe_wE pe_wE pe_wE hs) ?_
  unfold mDPut at he
  split at he
  · rename_i d env1 g1
    split at he
    · rename_i kvs kd g2 g3
      split at he
      · rename_i kk g4
        split at he
        · rename_i hl
          cases g5 : setD (putD kvs kk d) pl env1 with
          | none => rw [g5] at he; cases he
          | some e2 =>
            rw [g5] at he
            cases he
            refine he' hK σ env _ _ w _ g1 E fun v w1 Fr E1 T1 p1 f1 => ?_
            refine ha hK σ env1 _ w1 _ g2 E1 fun x G rx hx => ?_
            refine hb hK σ env1 _ w1 _ g3 E1 fun y G2 ry _ => ?_
            obtain ⟨p, vs, rfl, hp, r⟩ := rx.dic
            refine ⟨p, _, rfl, by rw [keyOf_dat ry.1 g4]; exact DPut.k hp (by rw [r.length]; exact hl), ?_⟩
            obtain ⟨w2, eH, E2, p2⟩ := E1.putDic g2 hx (r.put (k := kk) T1.rep.1) g5
            rw [← eH]
            exact k σ w2 E2 (p1.trans p2 E.dom) Agree.refl
        · cases he
      · cases he
    · cases he
  · cases he
end
end G

/-! G17: attributes stored, instances made, methods called -/
namespace G
open PySem L2
section
variable {Γ : Gam} {X : Cx} {A : List Nat} {σ : St} {env env' : Env Γ} {w : Wd} {e : Expr} {es : List Expr} {pos : Pos}

/-! ### a name's thing goes out of its slot -/
def mMv {Γ : Gam} (i : Nat) : Ev Γ := fun env => (got env[i]?).map fun s => (s, env.set i .none)
theorem sd_mv (i : Nat) {x : Str} (hN : X.N[i]? = some x := by rfl) (hv : Vis X.env.scope x := by first | exact Or.inl rfl | exact Or.inr (Or.inl rfl) | exact Or.inr (Or.inr rfl)) (hd : (x == ("__debug__" : Str)) = false := by decide) (hcd : (x == ("__classdict__" : Str)) = false := by decide) : SdE Γ X (.Name x pos) (mMv i) := by
  intro hK σ env r env' w Q he E k
  unfold mMv at he
  cases g : got env[i]? with
  | none => rw [g] at he; cases he
  | some s =>
    rw [g] at he
    cases he
    obtain ⟨v, ev, rv⟩ := E.at g
    refine wE.of (pe_var hN hv hd hcd) ⟨v, ev, k v ⟨w.M, fun j a => w.F j a ∧ j ≠ i, w.H⟩ (w.F i) (E.moved i) ⟨rv, fun a f => E.sub i a f, fun a j f z => z.2 (E.dis j i a z.1 f)⟩ ⟨fun _ _ _ q => q, fun _ _ m => m, fun _ m => .inl m, fun j _ f => .inl ⟨j, f.1⟩, fun _ q => q⟩ fun a f => .inl ⟨i, f⟩⟩

/-! ### self.f = e -/
def Sl.fd {Γ : Gam} : Sl Γ → Option Fd
  | .dat d => some (.dat d)
  | .lst ds => some (.lst ds)
  | .dic kvs => some (.dic kvs)
  | _ => Option.none
theorem SR.fdr {M : Addr → Prop} {H : Hp} {v : V} {s : Sl Γ} {x : Fd} {G : Addr → Prop} (h : SR Γ M H v s G) (e : s.fd = some x) : FdR Γ M H v x G := by
  cases s with
  | dat d => cases e; exact h
  | lst ds => cases e; exact h
  | dic kvs => cases e; exact h
  | _ => cases e
theorem FdRs.put {M : Addr → Prop} {H : Hp} {f : Str} {v : V} {x : Fd} {G1 : Addr → Prop} (h : FdR Γ M H v x G1) : ∀ {vs : List (Str × V)} {fs : List (Str × Fd)} {G : Addr → Prop}, FdRs Γ M H vs fs G → (∀ a, G1 a → ¬ G a) → ∃ G', FdRs Γ M H (putF f v vs) (putFd f x fs) G' ∧ ∀ a, G' a → G a ∨ G1 a
  | _, _, G, .nil hG, d => ⟨G1, .cons (G2 := fun _ => False) h (.nil fun _ z => z) (fun _ _ z => z) (fun a => ⟨fun z => .inl z, fun z => z.elim id False.elim⟩), fun a z => .inr z⟩
  | _, _, G, .cons (n := n) (G1 := g1) (G2 := g2) hh r dd eq, d => by
    by_cases e : n = f
    · refine ⟨fun a => G1 a ∨ g2 a, ?_, fun a z => z.elim .inr fun q => .inl ((eq a).mpr (.inr q))⟩
      unfold putF putFd
      rw [if_pos e, if_pos e]
      exact .cons h r (fun a z q => d a z ((eq a).mpr (.inr q))) fun a => Iff.rfl
    · obtain ⟨G', h1, h2⟩ := FdRs.put h r fun a z q => d a z ((eq a).mpr (.inr q))
      refine ⟨fun a => g1 a ∨ G' a, ?_, fun a z => z.elim (fun q => .inl ((eq a).mpr (.inl q))) fun q => (h2 a q).imp (fun y => (eq a).mpr (.inr y)) id⟩
      unfold putF putFd
      rw [if_neg e, if_neg e]
      exact .cons hh h1 (fun a z q => (h2 a q).elim (fun y => dd a z y) fun y => d a y ((eq a).mpr (.inl z))) fun a => Iff.rfl
theorem FdRs.len {M : Addr → Prop} {H : Hp} : ∀ {vs : List (Str × V)} {fs : List (Str × Fd)} {G : Addr → Prop}, FdRs Γ M H vs fs G → vs.length = fs.length
  | _, _, _, .nil _ => rfl
  | _, _, _, .cons _ r _ _ => by rw [List.length_cons, List.length_cons, FdRs.len r]
theorem FdRs.nolook {M : Addr → Prop} {H : Hp} {f : Str} : ∀ {vs : List (Str × V)} {fs : List (Str × Fd)} {G : Addr → Prop}, FdRs Γ M H vs fs G → fs.lookup f = none → vs.lookup f = none
  | _, _, _, .nil _, _ => rfl
  | _, _, _, .cons (n := n) h r d eq, e => by
    rw [List.lookup_cons] at e ⊢
    cases hn : (f == n) with
    | true => rw [hn] at e; cases e
    | false => rw [hn] at e; exact FdRs.nolook r e
def mFSet {Γ : Gam} (i : Nat) (f : Str) (fe : Ev Γ) : Es Γ := fun env =>
  match fe env with
  | some (s, env1) => match s.fd, env1[i]? with
    | some x, some (.ins c fs) => if Γ.has c f = true ∧ fs.length < 1000 then some (.nx, env1.set i (.ins c (putFd f x fs))) else none
    | _, _ => none
  | none => none
theorem sds_fld (i : Nat) {x f : Str} {fe : Ev Γ} {npos tpos : Pos} (hF : FldOk Γ f) (hN : X.N[i]? = some x) (hv : Vis X.env.scope x) (he' : SdE Γ X e fe) (hd : (x == ("__debug__" : Str)) = false := by decide) (hcd : (x == ("__classdict__" : Str)) = false := by decide)
    (hs : swapsWith e (some (.Attribute (.Name x npos) f tpos)) pos.line X.env = pure false := by rfl) : SdS Γ X A (.Assign [.Attribute (.Name x npos) f tpos] e pos) (mFSet i f fe) := by
  intro hK σ env fl env' w D he E k
  refine wS.of (ps_fld (pe_var hN hv hd hcd) pe_wE hs) ?_
  unfold mFSet at he
  cases g1 : fe env with
  | none => simp only [g1] at he; cases he
  | some q =>
    obtain ⟨s, env1⟩ := q
    simp only [g1] at he
    split at he
    · rename_i y c fs g2 g3
      split at he
      · rename_i hc
        cases he
        refine he' hK σ env _ _ w _ g1 E fun v w1 Fr E1 T1 p1 f1 => ?_
        obtain ⟨u, ev, a, C, ns, dx, vs, G, rfl, hC, ha, rs, nG, hFr⟩ := E1.at (i := i) (s := .ins c fs) (by rw [g3]; rfl)
        have hc1 := hc.1
        unfold Gam.has at hc1
        rw [hC] at hc1
        obtain ⟨c1, c2⟩ := hF c C ns hC hc1
        refine ⟨_, ev, a, C, dx, vs, rfl, ha, hK.k ▸ c1, hK.k ▸ c2, by rw [rs.len]; exact hc.2, ?_⟩
        have dG : ∀ b, Fr b → ¬ G b := fun b z q => T1.off b i z ((hFr b).mpr (.inr q))
        obtain ⟨G', r', hG'⟩ := FdRs.put (f := f) (T1.rep.fdr g2) rs dG
        have ma : w1.M a := E1.sub i a ((hFr a).mpr (.inl rfl))
        have fa : w1.F i a := (hFr a).mpr (.inl rfl)
        have naG : ¬ G' a := fun z => (hG' a z).elim nG fun q => T1.off a i q fa
        have go : Go w1.M w1.H w1.M (upd w1.H a (.ins C dx (putF f v vs))) := ⟨fun b o nb q => by rw [upd_ne (fun (z : b = a) => nb (z ▸ ma))]; exact q, fun _ nb _ => nb⟩
        have lv : ∀ b, w1.H b ≠ none → upd w1.H a (.ins C dx (putF f v vs)) b ≠ none := fun b hb => by
          by_cases z : b = a
          · rw [z, upd_same]; simp
          · rw [upd_ne z]; exact hb
        have E2 := E1.chg (i := i) (v := .ref a) (s' := .ins c (putFd f y fs)) (Fi := fun b => b = a ∨ G' b) (H' := upd w1.H a (.ins C dx (putF f v vs))) ev (fun b o nb q => by rw [upd_ne (fun (z : b = a) => nb (z ▸ fa))]; exact q) lv
          (fun b z => by
            rcases z with z | z
            · subst z; exact ⟨ma, fun j hj q => hj (E1.dis j i b q fa)⟩
            · rcases hG' b z with q | q
              · have fb := (hFr b).mpr (.inr q)
                exact ⟨E1.sub i b fb, fun j hj y => hj (E1.dis j i b y fb)⟩
              · exact ⟨T1.sub b q, fun j _ y => T1.off b j q y⟩)
          ⟨a, C, ns, dx, _, G', rfl, hC, upd_same, r'.keep ma naG fun b nb => upd_ne nb, naG, fun b => Iff.rfl⟩
        refine k σ ⟨w1.M, fun j b => if j = i then (b = a ∨ G' b) else w1.F j b, upd w1.H a (.ins C dx (putF f v vs))⟩ E2 ⟨fun b o nb q => ?_, p1.mu, p1.src, fun j b z => ?_, fun b hb => lv b (p1.live b hb)⟩ Agree.refl
        · show upd w1.H a (.ins C dx (putF f v vs)) b = some o
          have : b ≠ a := fun z => by
            have hb := p1.own i a fa
            rcases hb with ⟨j, y⟩ | y
            · exact nb j (z ▸ y)
            · rw [z, y] at q; cases q
          rw [upd_ne this]
          exact p1.keep b o nb q
        · have z' : (if j = i then (b = a ∨ G' b) else w1.F j b) := z
          split at z'
          · rcases z' with y | y
            · rw [y]; exact p1.own i a fa
            · rcases hG' b y with q | q
              · exact p1.own i b ((hFr b).mpr (.inr q))
              · exact f1 b q
          · exact p1.own j b z'
      · cases he
    · cases he

/-! ### C(e, ..) -/
theorem ARs.here {w : Wd} (E : ER Γ w σ env) : ∀ {vs : List V} {xs : List (Ag Γ)} {Frs : List (Addr → Prop)}, ARs Γ w σ vs xs Frs → ∀ G ∈ Frs, ∀ a, G a → w.H a ≠ none
  | _, _, _, .nil, G, hG => nomatch hG
  | _, _, _, .cons h d r, G, hG => fun a ga => by
    rcases List.mem_cons.mp hG with z | z
    · subst z; exact (h.here E a ga).1
    · exact ARs.here E r G z a ga
def mMake {Γ : Gam} (c np : Nat) (g : Fn Γ) (as : List (AE Γ)) : Ev Γ := fun env =>
  match evAs as env with
  | none => none
  | some (xs, env1) => match takeA xs env1 with
    | none => none
    | some (args, env2, bs) => if args.length + 1 = np then
        match g (.ins c [] :: args) with
        | some (.dat .non, .ins c' fs :: args') => some (.ins c' fs, putA bs args' env2)
        | _ => none
      else none
theorem make_run {c np : Nat} {C : Addr} {ns : List Str} {g : Fn Γ} {as : List (AE Γ)} {r : Sl Γ} {Q : VK} {E0 : XK} (hK : Gd Γ X) (hC : Γ.cls c = some (C, ns)) (ha : SdL Γ X es as) (he : mMake c np g as env = some (r, env')) (E : ER Γ w σ env)
    (k : ∀ v w' Fr, ER Γ w' σ env' → TR Γ w' v r Fr → Step w w' → Fresh w Fr → Q v w'.H) :
    wL X es σ w.H fun vs H1 => ∀ x dx, H1 x = none → H1 dx = none → dx ≠ x → spG Γ np g (.ref x :: vs) (upd (upd H1 dx (.own x)) x (.ins C dx [])) (fun v H2 => v = .non ∧ Q (.ref x) H2) E0 := by
  unfold mMake at he
  cases g1 : evAs as env with
  | none => simp only [g1] at he; cases he
  | some q =>
    obtain ⟨xs, env1⟩ := q
    simp only [g1] at he
    cases g2 : takeA xs env1 with
    | none => simp only [g2] at he; cases he
    | some q =>
      obtain ⟨args, env2, bs⟩ := q
      simp only [g2] at he
      split at he
      · rename_i hn
        split at he
        · rename_i c' fs args' g3
          cases he
          refine sdl_run hK ha g1 E fun vs w1 Frs E1 A1 p1 f1 x dx hx hdx hne => ?_
          have ext : ∀ b u, w1.H b = some u → upd (upd w1.H dx (.own x)) x (.ins C dx []) b = some u := fun b u e => by rw [upd_ne (ne_of_none e hx), upd_ne (ne_of_none e hdx)]; exact e
          obtain ⟨E2, p2⟩ := E1.grow (Fr := fun b => b = x) ext (fun b z => by subst z; exact ⟨hx, by rw [upd_same]; simp⟩)
          have A2 := A1.step E1 p2
          have T2 : TR Γ ⟨fun a => w1.M a ∨ a = x, w1.F, upd (upd w1.H dx (.own x)) x (.ins C dx [])⟩ (.ref x) (.ins c []) (fun b => b = x) :=
            ⟨⟨x, C, ns, dx, [], fun _ => False, rfl, hC, upd_same, .nil fun _ z => z, fun z => z, fun b => ⟨fun z => .inl z, fun z => z.elim id False.elim⟩⟩, fun b z => .inr z, fun b i z y => by subst z; exact E1.dom b (E1.sub i b y) hx⟩
          have hxw : w.H x = none := by
            cases q : w.H x with
            | none => rfl
            | some u => exact absurd hx (p1.live x (by rw [q]; simp))
          refine call_coreX (w := w) (env := env) (xs := .val (.ins c []) :: xs) (Frs := (fun b => b = x) :: Frs) E (p1.trans p2 E.dom) E2 (.cons T2 (fun G hG b z y => ?_) A2) (fun G hG => ?_) (args := .ins c [] :: args) (env2 := env2) (bs := none :: bs) (by simp only [takeA, g2, Option.map_some]) (by simpa using hn) g3 fun v w' Fr E' T' p' f' ex => ?_
          · subst z
            exact A1.here E1 G hG b y hx
          · rcases List.mem_cons.mp hG with z | z
            · subst z; exact fun b y => .inr (y ▸ hxw)
            · exact f1 G z
          · refine ⟨T'.rep.non rfl, ?_⟩
            rcases ex 0 _ rfl rfl with z | ⟨u, G, eu, T3, f3⟩
            · cases z
            · cases eu
              have e' : putA (none :: bs) (.ins c' fs :: args') env2 = putA bs args' env2 := rfl
              rw [e'] at E'
              exact k _ w' G E' T3 p' f3
        · cases he
      · cases he
end
end G

/-! G18: methods (also with keywords), instances made by a def with a star parameter, own operators -/
namespace G
open PySem L2
def mGo {Γ : Gam} (np : Nat) (g : Fn Γ) (xs : List (Ag Γ)) (env : Env Γ) : Option (Sl Γ × Env Γ) :=
  match takeA xs env with
  | none => none
  | some (args, env2, bs) => if args.length = np then
      match g args with
      | none => none
      | some (r, args') => some (r, putA bs args' env2)
    else none
section
variable {Γ : Gam} {X : Cx} {A : List Nat} {σ : St} {env env' : Env Γ} {w : Wd} {e : Expr} {es : List Expr} {pos apos npos : Pos} {c np : Nat} {g : Fn Γ} {as : List (AE Γ)} {m : Str}
theorem go_run {env1 : Env Γ} {xs : List (Ag Γ)} {vs : List V} {Frs : List (Addr → Prop)} {r : Sl Γ} {w1 : Wd} {Q : VK} {E0 : XK} (E : ER Γ w σ env) (p1 : Step w w1) (E1 : ER Γ w1 σ env1) (A1 : ARs Γ w1 σ vs xs Frs) (f1 : ∀ G ∈ Frs, Fresh w G)
    (he : mGo np g xs env1 = some (r, env')) (k : ∀ v w' Fr, ER Γ w' σ env' → TR Γ w' v r Fr → Step w w' → Fresh w Fr → Q v w'.H) : spG Γ np g vs w1.H Q E0 := by
  unfold mGo at he
  cases g2 : takeA xs env1 with
  | none => simp only [g2] at he; cases he
  | some q =>
    obtain ⟨args, env2, bs⟩ := q
    simp only [g2] at he
    split at he
    · rename_i hn
      cases g3 : g args with
      | none => simp only [g3] at he; cases he
      | some q =>
        obtain ⟨r1, args'⟩ := q
        simp only [g3] at he
        cases he
        exact call_core E p1 E1 A1 f1 g2 hn g3 k
    · cases he

/-! ### o.m(..) -/
structure Mf (Γ : Gam) (X : Cx) (c : Nat) (m : Str) (np : Nat) (g : Fn Γ) : Prop where
  ex : ∃ C ns k f fd ps, Γ.cls c = some (C, ns) ∧ Cls X.K C ∧ Meth X.K C m f ∧ FnOk X.prog X.w X.K X.mg X.base CX0 k f fd ps (spG Γ np g) ∧ Room k X.A ∧ Binds X.K fd ps []
def mMeth {Γ : Gam} (c : Nat) (m : Str) (np : Nat) (g : Fn Γ) (i : Nat) (as : List (AE Γ)) : Ev Γ := fun env =>
  match env[i]? with
  | some (.ins c' fs) => if c' = c ∧ fs.lookup m = none then
      match evAs as env with
      | none => none
      | some (xs, env1) => mGo np g (.brw i :: xs) env1
    else none
  | _ => none
theorem meth_run {i : Nat} {C : Addr} {ns : List Str} {r : Sl Γ} {Q : VK} {E0 : XK} (hK : Gd Γ X) (hC : Γ.cls c = some (C, ns)) (ha : SdL Γ X es as) (he : mMeth c m np g i as env = some (r, env')) (E : ER Γ w σ env)
    (k : ∀ v w' Fr, ER Γ w' σ env' → TR Γ w' v r Fr → Step w w' → Fresh w Fr → Q v w'.H) :
    ∃ a dx fs, σ[i]? = some (some (.ref a)) ∧ w.H a = some (.ins C dx fs) ∧ fs.lookup m = none ∧ wL X es σ w.H fun vs H2 => spG Γ np g (.ref a :: vs) H2 Q E0 := by
  unfold mMeth at he
  split at he
  · rename_i c' fs g0
    split at he
    · rename_i hc
      obtain ⟨rfl, hl⟩ := hc
      cases g1 : evAs as env with
      | none => simp only [g1] at he; cases he
      | some q =>
        obtain ⟨xs, env1⟩ := q
        simp only [g1] at he
        obtain ⟨u, ev, a, C', ns', dx, vs, G, rfl, hC', hA, rs, nG, hFr⟩ := E.at (i := i) (s := .ins c' fs) (by rw [g0]; rfl)
        rw [hC] at hC'
        cases hC'
        refine ⟨a, dx, vs, ev, hA, rs.nolook hl, ?_⟩
        exact sdl_run hK ha g1 E fun ws w1 Frs E1 A1 p1 f1 => go_run (Frs := (fun _ => False) :: Frs) E p1 E1 (.cons (show AR Γ w1 σ (.ref a) (.brw i) (fun _ => False) from ⟨ev, fun _ z => z⟩) (fun _ _ _ z => z.elim) A1) (fun G hG => by
          rcases List.mem_cons.mp hG with z | z
          · subst z; exact fun _ q => q.elim
          · exact f1 G z) he k
    · cases he
  · cases he
theorem sd_meth (i : Nat) {x : Str} {pl : Sem Bool} (h : Mf Γ X c m np g) (hN : X.N[i]? = some x) (hv : Vis X.env.scope x) (ha : SdL Γ X (e :: es) as) (hd : (x == ("__debug__" : Str)) = false := by decide) (hcd : (x == ("__classdict__" : Str)) = false := by decide)
    (hpl : (backTo pos (starEach es X.env)).any (·.1) = false := by rfl)
    (ht : eval (.Call (.Attribute (.Name x npos) m apos) (e :: es) [] pos) X.env = (do
      let ov ← eval (.Name x npos) X.env
      standAt apos.atName
      let (f, first) ← holding [ov] (getMethod ov m pl)
      callWith pos f first (backTo pos (starEach (e :: es) X.env)) (backToKw pos (keywordEach [] X.env))) := by rfl) : SdE Γ X (.Call (.Attribute (.Name x npos) m apos) (e :: es) [] pos) (mMeth c m np g i as) := by
  obtain ⟨C, ns, k0, f, fd, ps, h1, h2, h3, h4, h5, h6⟩ := h
  intro hK σ env r env' w Q he E k
  refine wE.of (pe_meth (E := E0) (pe_var hN hv hd hcd) h2 h3 h4 h5 h6 .nil pass0 (pa_wL ha.ns) (ha.ns e List.mem_cons_self es) hpl ht) ?_
  obtain ⟨a, dx, fs, q1, q2, q3, q4⟩ := meth_run (E0 := E0) hK h1 ha he E k
  refine ⟨_, q1, a, dx, fs, rfl, q2, q3, ?_⟩
  simp only [List.append_nil]
  exact q4
theorem sd_meth0 (i : Nat) {x : Str} {pl : Sem Bool} (h : Mf Γ X c m np g) (hN : X.N[i]? = some x) (hv : Vis X.env.scope x) (hd : (x == ("__debug__" : Str)) = false := by decide) (hcd : (x == ("__classdict__" : Str)) = false := by decide)
    (ht : eval (.Call (.Attribute (.Name x npos) m apos) [] [] pos) X.env = (do
      let ov ← eval (.Name x npos) X.env
      standAt apos.atName
      let (f, first) ← holding [ov] (getMethod ov m pl)
      callWith pos f first (backTo pos (starEach [] X.env)) (backToKw pos (keywordEach [] X.env))) := by rfl) : SdE Γ X (.Call (.Attribute (.Name x npos) m apos) [] [] pos) (mMeth c m np g i []) := by
  obtain ⟨C, ns, k0, f, fd, ps, h1, h2, h3, h4, h5, h6⟩ := h
  intro hK σ env r env' w Q he E k
  refine wE.of (pe_meth0 (E := E0) (pe_var hN hv hd hcd) h2 h3 h4 h5 h6 .nil pass0 ht) ?_
  obtain ⟨a, dx, fs, q1, q2, q3, q4⟩ := meth_run (E0 := E0) hK h1 .nil he E k
  exact ⟨_, q1, a, dx, fs, rfl, q2, q3, q4⟩

/-! ### o.m(.., k = v) -/
structure KB (K : PySem.W.Frag) (fd : FuncData) (ps ks : List Str) (n1 : Nat) : Prop where
  to : ∀ (s : Shared) (us ws : List Value), K.In s.heap → us.length = n1 → ws.length = ks.length → BindsTo s fd ⟨us, ks.zip ws⟩ (ps.zip (us ++ ws))
def tMethK (C : Addr) (m : Str) (sp : Sp) (n1 n2 : Nat) (E : XK) (ta : TE) (t tk : TA) : TE := fun σ H Q => ta σ H fun x H1 => ∃ a dx fs, x = .ref a ∧ H1 a = some (.ins C dx fs) ∧ fs.lookup m = none ∧
  t σ H1 fun vs H2 => tk σ H2 fun zs H3 => vs.length + 1 = n1 ∧ zs.length = n2 ∧ sp (x :: (vs ++ zs)) H3 Q E
theorem pe_methK {CX : CXT} {k n1 : Nat} {f C : Addr} {fd : FuncData} {ps ks : List Str} {sp : Sp} {E : XK} {o : Expr} {kws : List Keyword} {ta : TE} {t tk : TA} {pl : Sem Bool} (he : PE X o ta) (c : Cls X.K C) (hm : Meth X.K C m f) (F : FnOk X.prog X.w X.K X.mg X.base CX k f fd ps sp) (hr : Room k X.A) (hb : KB X.K fd ps ks n1) (hx : Passes CX X E) (ha : PA X (e :: es) t) (hkw : PK X kws tk)
    (hall : (backToKw pos (keywordEach kws X.env)).all (·.1.isSome) = true) (hks : (backToKw pos (keywordEach kws X.env)).filterMap (·.1) = ks)
    (hst : starEach (e :: es) X.env = (false, eval e X.env) :: starEach es X.env) (hpl : ((backTo pos (starEach (e :: es) X.env)).any (·.1) || (backToKw pos (keywordEach kws X.env)).any (·.1.isNone)) = false)
    (ht : eval (.Call (.Attribute o m apos) (e :: es) kws pos) X.env = (do
      let ov ← eval o X.env
      standAt apos.atName
      let (f, first) ← holding [ov] (getMethod ov m pl)
      callWith pos f first (backTo pos (starEach (e :: es) X.env)) (backToKw pos (keywordEach kws X.env)))) :
    PE X (.Call (.Attribute o m apos) (e :: es) kws pos) (tMethK C m sp n1 ks.length E ta t tk) := by
  refine ⟨fun pins s σ H Q I h => ?_⟩
  refine PySem.W.methodCall_KW (pl := pl) (thn (he.run pins s σ H _ I h) fun u s1 ⟨x, H1, I1, rx, a, dx, fs, ex, ea, l, q⟩ => ?_) ht
  subst ex
  obtain rfl : u = Value.ref a := rx
  refine getmeth_ok I1 ea c hm l ?_
  refine PySem.W.callWith_KW (first := [.ref a]) (h₀ := X.base) I.ok.mod.kin hm.kp hall (thn (ha.run pos pins s1 σ H1 _ I1 q) fun us s2 ⟨vs, H2, I2, r, q2⟩ => ?_) hpl hst
  refine thn (hkw.run pos pins s2 σ H2 _ I2 q2) fun ws s3 ⟨zs, H3, I3, rz, l1, l2, q3⟩ => ⟨I3.kIn, ?_⟩
  rw [hks]
  have r2 : Vals (.ref a :: (vs ++ zs)) ([.ref a] ++ us ++ ws) := .cons rfl (r.append rz)
  refine wpAny_call (codeAny_mono (F.run X.A X.stack s3 H3 ⟨[.ref a] ++ us, ks.zip ws⟩ ([.ref a] ++ us ++ ws) (.ref a :: (vs ++ zs)) Q E hr I3.env0 (hb.to s3 _ ws I3.kIn (by have := r.length; simp; omega) (by have := rz.length; omega)) r2 q3) fun r s' hq => ?_)
  cases r with
  | error e => exact hx pins σ H3 s3 e s' I3 hq
  | ok fl =>
    cases fl with
    | ret u => exact I3.after hq
    | next => exact False.elim hq
    | brk => exact False.elim hq
    | cont => exact False.elim hq
theorem pk_wL : ∀ {kws : List Keyword}, PK X kws (wL X (kws.map (·.value)))
  | [] => pk_nil
  | ⟨_, _, _⟩ :: kws => pk_cons pe_wE pk_wL
theorem wL_app : ∀ {es fs : List Expr} {H : Hp} {Q : List V → Hp → Prop}, wL X (es ++ fs) σ H Q → wL X es σ H fun vs H1 => wL X fs σ H1 fun zs H2 => Q (vs ++ zs) H2
  | [], _, _, _, h => h
  | _ :: es, fs, _, Q, h => fun pins s I => thn (h pins s I) fun u s1 ⟨x, H1, I1, rx, q⟩ => ⟨x, H1, I1, rx, wL_app (es := es) (fs := fs) q⟩
theorem wL_len : ∀ {es : List Expr} {H : Hp} {Q : List V → Hp → Prop}, wL X es σ H Q → wL X es σ H fun vs H1 => vs.length = es.length ∧ Q vs H1
  | [], _, _, h => ⟨rfl, h⟩
  | _ :: es, _, Q, h => fun pins s I => thn (h pins s I) fun u s1 ⟨x, H1, I1, rx, q⟩ => ⟨x, H1, I1, rx, by
      have := wL_len (es := es) q
      have e : (fun (vs : List V) (H1 : Hp) => vs.length = es.length ∧ Q (x :: vs) H1) = fun (vs : List V) (H1 : Hp) => (x :: vs).length = (es.length + 1) ∧ Q (x :: vs) H1 := by
        funext vs H1; simp
      rw [e] at this
      exact this⟩
theorem wL_imp {es : List Expr} {H : Hp} {Q Q' : List V → Hp → Prop} (h : wL X es σ H Q) (i : ∀ vs H, Q vs H → Q' vs H) : wL X es σ H Q' := by
  induction es generalizing H Q Q' with
  | nil => exact i _ _ h
  | cons e es ih => exact fun pins s I => thn (h pins s I) fun u s1 ⟨x, H1, I1, rx, q⟩ => ⟨x, H1, I1, rx, ih q fun vs H => i _ _⟩
structure MfK (Γ : Gam) (X : Cx) (c : Nat) (m : Str) (np : Nat) (g : Fn Γ) (ks : List Str) (n1 : Nat) : Prop where
  ex : ∃ C ns k f fd ps, Γ.cls c = some (C, ns) ∧ Cls X.K C ∧ Meth X.K C m f ∧ FnOk X.prog X.w X.K X.mg X.base CX0 k f fd ps (spG Γ np g) ∧ Room k X.A ∧ KB X.K fd ps ks n1
theorem sd_methK (i : Nat) {x : Str} {pl : Sem Bool} {ks : List Str} {n1 : Nat} {kws : List Keyword} (h : MfK Γ X c m np g ks n1) (hN : X.N[i]? = some x) (hv : Vis X.env.scope x) (ha : SdL Γ X (e :: es ++ kws.map (·.value)) as) (hl1 : (e :: es).length + 1 = n1) (hl2 : kws.length = ks.length)
    (hd : (x == ("__debug__" : Str)) = false := by decide) (hcd : (x == ("__classdict__" : Str)) = false := by decide)
    (hall : (backToKw pos (keywordEach kws X.env)).all (·.1.isSome) = true := by rfl) (hks : (backToKw pos (keywordEach kws X.env)).filterMap (·.1) = ks := by rfl)
    (hpl : ((backTo pos (starEach (e :: es) X.env)).any (·.1) || (backToKw pos (keywordEach kws X.env)).any (·.1.isNone)) = false := by rfl)
    (ht : eval (.Call (.Attribute (.Name x npos) m apos) (e :: es) kws pos) X.env = (do
      let ov ← eval (.Name x npos) X.env
      standAt apos.atName
      let (f, first) ← holding [ov] (getMethod ov m pl)
      callWith pos f first (backTo pos (starEach (e :: es) X.env)) (backToKw pos (keywordEach kws X.env))) := by rfl) : SdE Γ X (.Call (.Attribute (.Name x npos) m apos) (e :: es) kws pos) (mMeth c m np g i as) := by
  obtain ⟨C, ns, k0, f, fd, ps, h1, h2, h3, h4, h5, h6⟩ := h
  intro hK σ env r env' w Q he E k
  have hns := ha.ns
  refine wE.of (pe_methK (E := E0) (pe_var hN hv hd hcd) h2 h3 h4 h5 h6 pass0 (pa_wL fun y hy => hns y (List.mem_append_left _ hy)) pk_wL hall hks (hns e (by simp) es) hpl ht) ?_
  obtain ⟨a, dx, fs, q1, q2, q3, q4⟩ := meth_run (E0 := E0) hK h1 ha he E k
  refine ⟨_, q1, a, dx, fs, rfl, q2, q3, ?_⟩
  refine wL_imp (wL_len (wL_app (es := e :: es) q4)) fun vs H1 ⟨z1, z2⟩ => ?_
  refine wL_imp (wL_len z2) fun zs H2 ⟨z3, z4⟩ => ⟨by rw [z1]; exact hl1, by rw [z3, List.length_map]; exact hl2, z4⟩
end
end G

/-! G19: instances made by a def with a star parameter; own operators -/
namespace G
open PySem L2
section
variable {Γ : Gam} {X : Cx} {A : List Nat} {σ : St} {env env' : Env Γ} {w : Wd} {e a b : Expr} {es : List Expr} {pos apos npos : Pos} {c np : Nat} {g : Fn Γ} {as : List (AE Γ)} {m x : Str}
/-- a body's derivation gives the promise by data -/
theorem body_ok {P : Program} {w : World} {mg : Str → Option Value} {base : Heap} {qual : Str} {st : Stmt} {f : Addr} {N ps : List Str} {k : Nat} {A : List Nat} {body : Es Γ} (S : FnScope N ps (defScope st))
    (hb : ∀ (cdv : Value) (Ar : Around) (outer : List PySem.Env) (s : Shared) (H : Hp) (E : XK), Room k (Ar.deeper (PyProof.Rows.envOfC qual (defScope st) s.heap.objs.size f cdv)) → SdSs Γ (cxOf CX0 P w Γ.K mg base N qual (defScope st) f cdv Ar outer s H E).nox A (defBody st) body)
    (cdv : Value) (Ar : Around) (outer : List PySem.Env) (s : Shared) (H : Hp) (vs : List V) (Q : VK) (E : XK) (hr : Room k (Ar.deeper (PyProof.Rows.envOfC qual (defScope st) s.heap.objs.size f cdv))) (h : spG Γ ps.length (mFun ps.length (N.length - ps.length) A body) vs H Q E) :
    ∃ t, PSs (cxOf CX0 P w Γ.K mg base N qual (defScope st) f cdv Ar outer s H E).nox (defBody st) t ∧ t { nx := fun _ H' => Q .non H', rt := Q } (L2.start N vs) H := by
  obtain ⟨args, r, args', w1, hg, hl, rfl, Er, k1⟩ := h
  have hlv : vs.length = ps.length := by have := Er.len; rw [List.length_map] at this; omega
  unfold mFun at hg
  split at hg
  · rename_i hc
    refine ⟨_, pss_wSs, ?_⟩
    have es : L2.start N vs = vs.map some ++ List.replicate (N.length - ps.length) none := by unfold L2.start; rw [hlv]
    have Gx : Gd Γ (cxOf CX0 P w Γ.K mg base N qual (defScope st) f cdv Ar outer s w1.H E).nox := ⟨rfl, rfl, by have := hr.un; show (Ar.deeper (PyProof.Rows.envOfC qual (defScope st) s.heap.objs.size f cdv)).units + 65 < cLine; omega, S.nd⟩
    have E0 := Er.extend (N.length - ps.length)
    rw [es]
    split at hg
    · rename_i s1 env' g1
      cases hg
      refine hb cdv Ar outer s w1.H E hr Gx _ _ _ _ w1 _ g1 E0 fun v σ' w' Fr E' T' p' f' a' => ?_
      have hc2 := hc.2
      rw [← hl] at hc2
      have E2 := Er.cut E' p' a' hc2
      exact k1 v ⟨w'.M, fun i x => i < args.length ∧ i ∉ A ∧ w'.F i x, w'.H⟩ Fr (by rw [← hl]; exact E2) ⟨T'.rep, T'.sub, fun a i z q => T'.off a i z q.2.2⟩ ⟨p'.keep, p'.mu, p'.src, fun i a q => p'.own i a q.2.2, p'.live⟩ f'
    · rename_i env' g1
      cases hg
      refine hb cdv Ar outer s w1.H E hr Gx _ _ _ _ w1 _ g1 E0 fun σ' w' E' p' a' => ?_
      have hc2 := hc.2
      rw [← hl] at hc2
      have E2 := Er.cut E' p' a' hc2
      exact k1 .non ⟨w'.M, fun i x => i < args.length ∧ i ∉ A ∧ w'.F i x, w'.H⟩ (fun _ => False) (by rw [← hl]; exact E2) (TR.dat .non) ⟨p'.keep, p'.mu, p'.src, fun i a q => p'.own i a q.2.2, p'.live⟩ fun _ z => z.elim
    · cases hg
  · cases hg
/-- the promise of a def f(a, *v) -/
def spV (Γ : Gam) (np : Nat) (g : Fn Γ) : Sp := fun vs H Q E => ∃ ws rest, vs = ws ++ rest ∧ ws.length + 1 = np ∧ rest.length ≤ sizeLine ∧ ∀ p, H p = Option.none → spG Γ np g (ws ++ [V.ref p]) (upd H p (.tup rest)) Q E
theorem fn_starG {P : Program} {w : World} {mg : Str → Option Value} {base : Heap} {x qual : Str} {st : Stmt} {f : Addr} {fd : FuncData} {N ps : List Str} {pv : Str} {k np loc : Nat} {A : List Nat} {body : Es Γ} {g : Fn Γ} (F : Fun Γ.K x qual st f fd) (S : FnScope N (ps ++ [pv]) (defScope st))
    (e1 : (ps ++ [pv]).length = np) (e2 : N.length - np = loc) (e3 : g = mFun np loc A body)
    (hbi : ∀ (kV doc pm : Value) (an : Option Addr) (cdv ct : Value) (us rest : List Value), us.length = ps.length → bindArgs (PySem.W.fnOf x qual (defArgs st) (defBody st) (defScope st) .none kV doc pm an cdv ct) ⟨us ++ rest, []⟩ = (newTuple rest >>= fun t => pure (ps.zip us ++ [(pv, t)])))
    (hb : ∀ (cdv : Value) (Ar : Around) (outer : List PySem.Env) (s : Shared) (H : Hp) (E : XK), Room k (Ar.deeper (PyProof.Rows.envOfC qual (defScope st) s.heap.objs.size f cdv)) → SdSs Γ (cxOf CX0 P w Γ.K mg base N qual (defScope st) f cdv Ar outer s H E).nox A (defBody st) body) :
    FnR P w Γ.K mg base CX0 (k + 1) f (spV Γ np g) := by
  subst e1 e2 e3
  obtain ⟨oc, od, kV, doc, pm, an, cdv, ct, osl, rfl, lk, hcd⟩ := F.ex
  refine FnR.imp (StX.fn_star (sp := spG Γ (ps ++ [pv]).length (mFun (ps ++ [pv]).length (N.length - (ps ++ [pv]).length) A body)) (pv := pv) (ps := ps) lk hcd S StX.cxUp_none (fun us rest hl => hbi kV doc pm an cdv ct us rest hl) fun Ar outer s H vs Q E hr h => ?_) fun vs H Q E ⟨ws, rest, q1, q2, q3, q4⟩ => ⟨ws, rest, q1, by rw [List.length_append] at q2; simpa using q2, q3, q4⟩
  obtain ⟨t, h1, h2⟩ := body_ok S hb cdv Ar outer s H vs Q E hr h
  exact ⟨t, h1.nox, h2⟩

/-! ### C(..), the class's __init__ with a star parameter -/
structure MkV (Γ : Gam) (X : Cx) (c : Nat) (x : Str) (g : Fn Γ) : Prop where
  ex : ∃ C ns k f, Γ.cls c = some (C, ns) ∧ Mk X.K C f ∧ FnR X.prog X.w X.K X.mg X.base CX0 k f (spV Γ 2 g) ∧ Room (k + 1) X.A ∧ X.mg x = some (.ref C)
def mkV {Γ : Gam} (c : Nat) (g : Fn Γ) (ds : List D) : Option (Sl Γ) :=
  if ds.length ≤ 1000 then
    match g [.ins c [], .dat (.tup ds)] with
    | some (.dat .non, [.ins c' fs, _]) => some (.ins c' fs)
    | _ => none
  else none
theorem makeV_run {C : Addr} {ns : List Str} {s : Sl Γ} {Q : VK} {E0 : XK} {w1 : Wd} {vs : List V} {ds : List D} (hC : Γ.cls c = some (C, ns)) (E : ER Γ w σ env) (p1 : Step w w1) (E1 : ER Γ w1 σ env') (hD : Dats Γ w1.M w1.H vs ds) (he : mkV c g ds = some s)
    (k : ∀ v w' Fr, ER Γ w' σ env' → TR Γ w' v s Fr → Step w w' → Fresh w Fr → Q v w'.H) :
    ∀ x dx, w1.H x = none → w1.H dx = none → dx ≠ x → spV Γ 2 g (.ref x :: vs) (upd (upd w1.H dx (.own x)) x (.ins C dx [])) (fun v H2 => v = .non ∧ Q (.ref x) H2) E0 := by
  intro x dx hx hdx hne
  unfold mkV at he
  split at he
  · rename_i hl
    split at he
    · rename_i c' fs s2 g3
      cases he
      refine ⟨[.ref x], vs, rfl, rfl, by rw [hD.length]; exact Nat.le_trans hl (by decide), fun p hp => ?_⟩
      have hpx : p ≠ x := fun z => by rw [z, upd_same] at hp; cases hp
      have hpd : p ≠ dx := fun z => by rw [z, upd_ne hne, upd_same] at hp; cases hp
      have hp1 : w1.H p = none := by rw [upd_ne hpx, upd_ne hpd] at hp; exact hp
      have ext : ∀ b u, w1.H b = some u → upd (upd (upd w1.H dx (.own x)) x (.ins C dx [])) p (.tup vs) b = some u := fun b u e => by rw [upd_ne (ne_of_none e hp1), upd_ne (ne_of_none e hx), upd_ne (ne_of_none e hdx)]; exact e
      have hix : upd (upd (upd w1.H dx (.own x)) x (.ins C dx [])) p (.tup vs) x = some (.ins C dx []) := by rw [upd_ne (Ne.symm hpx), upd_same]
      obtain ⟨E2, p2⟩ := E1.grow (Fr := fun b => b = x) ext (fun b z => by subst z; exact ⟨hx, by rw [hix]; simp⟩)
      have T2 : TR Γ ⟨fun a => w1.M a ∨ a = x, w1.F, upd (upd (upd w1.H dx (.own x)) x (.ins C dx [])) p (.tup vs)⟩ (.ref x) (.ins c []) (fun b => b = x) :=
        ⟨⟨x, C, ns, dx, [], fun _ => False, rfl, hC, hix, .nil fun _ z => z, fun z => z, fun b => ⟨fun z => .inl z, fun z => z.elim id False.elim⟩⟩, fun b z => .inr z, fun b i z y => by subst z; exact E1.dom b (E1.sub i b y) hx⟩
      have npM : ¬ (w1.M p ∨ p = x) := fun z => z.elim (fun q => E1.dom p q hp1) hpx
      have T3 : TR Γ ⟨fun a => w1.M a ∨ a = x, w1.F, upd (upd (upd w1.H dx (.own x)) x (.ins C dx [])) p (.tup vs)⟩ (.ref p) (.dat (.tup ds)) (fun _ => False) :=
        ⟨⟨.tup (.inl ⟨npM, .inl upd_same⟩) (hD.go (E1.go p2)), fun _ z => z⟩, fun _ z => z.elim, fun _ _ z => z.elim⟩
      have hxw : w.H x = none := by
        cases q : w.H x with
        | none => rfl
        | some u => exact absurd hx (p1.live x (by rw [q]; simp))
      refine call_coreX (w := w) (env := env) (xs := [.val (.ins c []), .val (.dat (.tup ds))]) (Frs := [(fun b => b = x), fun _ => False]) E (p1.trans p2 E.dom) E2 (.cons T2 (fun G hG b z y => ?_) (.cons T3 (fun G hG => nomatch hG) .nil)) (fun G hG => ?_) (args := [.ins c [], .dat (.tup ds)]) (env2 := env') (bs := [none, none]) rfl rfl g3 fun v w' Fr E' T' p' f' ex => ?_
      · simp at hG; subst hG; exact y
      · simp at hG
        rcases hG with z | z
        · subst z; exact fun b y => .inr (y ▸ hxw)
        · subst z; exact fun b y => y.elim
      · refine ⟨T'.rep.non rfl, ?_⟩
        rcases ex 0 _ rfl rfl with z | ⟨u, G, eu, T3, f3⟩
        · cases z
        · cases eu
          exact k _ w' G E' T3 p' f3
    · cases he
  · cases he
def mMakeV {Γ : Gam} (c : Nat) (g : Fn Γ) (as : List (AE Γ)) : Ev Γ := fun env =>
  match evAs as env with
  | none => none
  | some (xs, env1) => match peeks xs env1 with
    | none => none
    | some ss => match allDat ss with
      | none => none
      | some ds => (mkV c g ds).map fun s => (s, env1)
theorem makeV_runL {C : Addr} {ns : List Str} {r : Sl Γ} {Q : VK} {E0 : XK} (hK : Gd Γ X) (hC : Γ.cls c = some (C, ns)) (ha : SdL Γ X es as) (he : mMakeV c g as env = some (r, env')) (E : ER Γ w σ env)
    (k : ∀ v w' Fr, ER Γ w' σ env' → TR Γ w' v r Fr → Step w w' → Fresh w Fr → Q v w'.H) :
    wL X es σ w.H fun vs H1 => ∀ x dx, H1 x = none → H1 dx = none → dx ≠ x → spV Γ 2 g (.ref x :: vs) (upd (upd H1 dx (.own x)) x (.ins C dx [])) (fun v H2 => v = .non ∧ Q (.ref x) H2) E0 := by
  unfold mMakeV at he
  cases g1 : evAs as env with
  | none => simp only [g1] at he; cases he
  | some q =>
    obtain ⟨xs, env1⟩ := q
    simp only [g1] at he
    cases g2 : peeks xs env1 with
    | none => simp only [g2] at he; cases he
    | some ss =>
      simp only [g2] at he
      cases g3 : allDat ss with
      | none => simp only [g3] at he; cases he
      | some ds =>
        simp only [g3] at he
        cases g4 : mkV c g ds with
        | none => rw [g4] at he; cases he
        | some s =>
          rw [g4] at he
          cases he
          exact sdl_run hK ha g1 E fun vs w1 Frs E1 A1 p1 f1 => makeV_run hC E p1 E1 (allDat_ok (A1.peeks E1 g2) g3) g4 k
theorem sd_makeV {p : Pos} (h : MkV Γ X c x g) (hg : Gl X x) (ha : SdL Γ X (e :: es) as) (hdb : (x == ("__debug__" : Str)) = false := by decide) (hpl : (backTo pos (starEach es X.env)).any (·.1) = false := by rfl) : SdE Γ X (.Call (.Name x p) (e :: es) [] pos) (mMakeV c g as) := by
  obtain ⟨C, ns, k0, f, h1, h2, h3, h4, h5⟩ := h
  intro hK σ env r env' w Q he E k
  exact wE.of (StX.pe_makeR (E := E0) h2 h3 h4 hg h5 pass0 (pa_wL ha.ns) hdb (ha.ns e List.mem_cons_self es) hpl) (makeV_runL hK h1 ha he E k)
theorem sd_makeV0 {p : Pos} (h : MkV Γ X c x g) (hg : Gl X x) (hdb : (x == ("__debug__" : Str)) = false := by decide) : SdE Γ X (.Call (.Name x p) [] [] pos) (mMakeV c g []) := by
  obtain ⟨C, ns, k0, f, h1, h2, h3, h4, h5⟩ := h
  intro hK σ env r env' w Q he E k
  have q := makeV_runL (E0 := E0) hK h1 .nil he E k
  intro pins s I
  refine wpAny_Call_Name_kw (ld_glob I hg h5 ?_ hdb)
  exact PySem.W.callWith_K0 I.kIn h2.kp (StX.run_makeR (us := []) h2 h3 h4 pass0 I .nil q)
def mMakeS {Γ : Gam} (c : Nat) (g : Fn Γ) (a : AE Γ) : Ev Γ := fun env =>
  match evA a env with
  | none => none
  | some (x, env1) => match peek x env1 with
    | some (.lst ds) => (mkV c g ds).map fun s => (s, env1)
    | _ => none
theorem sd_makeS {p sp : Pos} {ae : AE Γ} (h : MkV Γ X c x g) (hg : Gl X x) (ha : SdA Γ X e ae) (hdb : (x == ("__debug__" : Str)) = false := by decide) (hst : starEach [.Starred e sp] X.env = [(true, eval e X.env)] := by rfl) : SdE Γ X (.Call (.Name x p) [.Starred e sp] [] pos) (mMakeS c g ae) := by
  obtain ⟨C, ns, k0, f, h1, h2, h3, h4, h5⟩ := h
  intro hK σ env r env' w Q he E k
  unfold mMakeS at he
  cases g1 : evA ae env with
  | none => simp only [g1] at he; cases he
  | some q =>
    obtain ⟨y, env1⟩ := q
    simp only [g1] at he
    split at he
    · rename_i ds g2
      cases g4 : mkV c g ds with
      | none => rw [g4] at he; cases he
      | some s =>
        rw [g4] at he
        cases he
        have q : wE X e σ w.H fun v H1 => ∃ a xs, v = V.ref a ∧ SqL X.K H1 a xs ∧ ∀ x dx, H1 x = none → H1 dx = none → dx ≠ x → spV Γ 2 g (.ref x :: xs) (upd (upd H1 dx (.own x)) x (.ins C dx [])) (fun v H2 => v = .non ∧ Q (.ref x) H2) E0 := by
          refine sda_run ha hK g1 E fun v w1 Fr E1 A1 p1 f1 => ?_
          obtain ⟨G1, a, vs, rfl, q1, q2, q3⟩ := A1.peek E1 g2
          exact ⟨a, vs, rfl, .inl (.inl q1), makeV_run h1 E p1 E1 q2 g4 k⟩
        intro pins s I
        refine wpAny_Call_Name_kw (ld_glob I hg h5 ?_ hdb)
        refine PySem.W.callWith_S (h₀ := X.base) I.ok.mod.kin h2.kp (thn (q pins s I) fun v s1 ⟨y, H1, I1, ry, a, xs, ey, hxs, q⟩ => ?_) hst
        subst ey
        obtain rfl : v = Value.ref a := ry
        exact StX.star_any I1 (.inr hxs) fun us s2 I2 rv => ⟨I2.kIn, StX.run_makeR h2 h3 h4 pass0 I2 rv q⟩
    · cases he

/-! ### own operators -/
def fitO {Γ : Gam} (c : Nat) : Sl Γ → Bool
  | .ins c' _ => c' == c
  | .lst _ => true
  | .dat (.lst _) => true
  | _ => false
def fitI {Γ : Gam} (c : Nat) : Sl Γ → Bool
  | .ins c' _ => c' == c
  | _ => false
def mOwn {Γ : Gam} (fit : Sl Γ → Bool) (c : Nat) (g : Fn Γ) (a b : AE Γ) : Ev Γ := fun env =>
  match evAs [a, b] env with
  | none => none
  | some (xs, env1) => match peeks xs env1 with
    | some [.ins c' _, s] => if (c' == c) = true ∧ fit s = true then mGo 2 g xs env1 else none
    | _ => none
/-- the second operand's type -/
def tyO (H : Hp) (C : Addr) (y : V) : Prop := ∃ b, y = .ref b ∧ ((∃ dx fs, H b = some (.ins C dx fs)) ∨ ∃ vs, H b = some (.lst vs))
def rOwn2 (C : Addr) (sp : Sp) (E : XK) : R2 := fun x y H Q => ∃ a dx fs b, x = .ref a ∧ y = .ref b ∧ H a = some (.ins C dx fs) ∧ (∃ dy fy, H b = some (.ins C dy fy)) ∧ sp [x, y] H Q E
def rOwnE (C : Addr) (sp : Sp) (E : XK) : R2 := fun x y H Q => ∃ a dx fs, x = .ref a ∧ tyO H C y ∧ H a = some (.ins C dx fs) ∧ sp [x, y] H Q E
theorem own_run {fit : Sl Γ → Bool} {fa fb : AE Γ} {C : Addr} {ns : List Str} {r : Sl Γ} {Q : VK} {E0 : XK} (hK : Gd Γ X) (hC : Γ.cls c = some (C, ns)) (ha : SdL Γ X [a, b] [fa, fb]) (he : mOwn fit c g fa fb env = some (r, env')) (E : ER Γ w σ env)
    (k : ∀ v w' Fr, ER Γ w' σ env' → TR Γ w' v r Fr → Step w w' → Fresh w Fr → Q v w'.H) :
    wE X a σ w.H fun x H1 => wE X b σ H1 fun y H2 => ∃ ad dx fs M G s, x = .ref ad ∧ H2 ad = some (.ins C dx fs) ∧ fit s = true ∧ SR Γ M H2 y s G ∧ spG Γ 2 g [x, y] H2 Q E0 := by
  unfold mOwn at he
  cases g1 : evAs [fa, fb] env with
  | none => simp only [g1] at he; cases he
  | some q =>
    obtain ⟨xs, env1⟩ := q
    simp only [g1] at he
    split at he
    · rename_i c' fs s2 g2
      split at he
      · rename_i hc
        obtain ⟨hc1, hc2⟩ := hc
        have ec : c' = c := by simpa using hc1
        subst ec
        have q : wL X [a, b] σ w.H fun vs H2 => ∃ x y ad dx fs M G s, vs = [x, y] ∧ x = .ref ad ∧ H2 ad = some (.ins C dx fs) ∧ fit s = true ∧ SR Γ M H2 y s G ∧ spG Γ 2 g [x, y] H2 Q E0 := by
          refine sdl_run hK ha g1 E fun vs w1 Frs E1 A1 p1 f1 => ?_
          have S := A1.peeks E1 g2
          cases S with
          | cons r1 S =>
            cases S with
            | cons r2 S =>
              cases S
              obtain ⟨ad, C', ns', dx, fs', G, rfl, hC', hA, _⟩ := r1
              rw [hC] at hC'
              cases hC'
              exact ⟨_, _, ad, dx, fs', w1.M, _, s2, rfl, rfl, hA, hc2, r2, go_run E p1 E1 A1 f1 he k⟩
        intro pins s I
        refine thn (q pins s I) fun u s1 ⟨x, H1, I1, rx, q1⟩ => ⟨x, H1, I1, rx, ?_⟩
        intro pins s I
        refine thn (q1 pins s I) fun u s1 ⟨y, H2, I2, ry, q2⟩ => ⟨y, H2, I2, ry, ?_⟩
        obtain ⟨x', y', ad, dx, fs, M, G, s, ev, h⟩ := q2
        cases ev
        exact ⟨ad, dx, fs, M, G, s, h⟩
      · cases he
    · cases he
structure Own (Γ : Gam) (X : Cx) (c : Nat) (m : Str) (g : Fn Γ) : Prop where
  ex : ∃ C ns k f fd ps, Γ.cls c = some (C, ns) ∧ PySem.W.findIn X.K (.ref C) m = some (some (.ref f)) ∧ PySem.W.isFn X.K (.ref f) = true ∧ PySem.W.selfFirst X.K C = true ∧ PySem.W.notFirst X.K C (.type "list") = true ∧ FnOk X.prog X.w X.K X.mg X.base CX0 k f fd ps (spG Γ 2 g) ∧ Room k X.A ∧ Binds X.K fd ps []
theorem sd_ownOr {fa fb : AE Γ} (h : Own Γ X c "__or__" g) (ha : SdL Γ X [a, b] [fa, fb]) : SdE Γ X (.BinOp a .BitOr b pos) (mOwn (fitI c) c g fa fb) := by
  obtain ⟨C, ns, k0, f, fd, ps, h1, h2, h3, h4, h5, h6, h7, h8⟩ := h
  intro hK σ env r env' w Q he E k
  have hop : OpR X (binaryOp .BitOr) (rOwn2 C (spG Γ 2 g) E0) := by
    intro pins s σ H x y v u Q I rx ry h
    obtain ⟨ad, dx, fs, bd, rfl, rfl, hA, ⟨dy, fy, hB⟩, q⟩ := h
    cases (show v = Value.ref ad from rx)
    cases (show u = Value.ref bd from ry)
    obtain ⟨mA, J, _⟩ := ins_get I.hok hA
    obtain ⟨mB, J', _⟩ := ins_get I.hok hB
    obtain ⟨od, J, _⟩ := J.look
    obtain ⟨od', J', _⟩ := J'.look
    obtain ⟨mm, hF⟩ := I.fr
    refine PySem.W.binop_K (op := .BitOr) hF I.ok.mod.kin J J'.type h4 h2 h3 ?_
    refine wpAny_mono (run_fn (us := [.ref ad, .ref bd]) (vs := [.ref ad, .ref bd]) h6 h7 h8 .nil pass0 I (.cons rfl (.cons rfl .nil)) (by simpa using q)) (fun z s' hz => ?_) fun _ _ x => x
    obtain ⟨z', H', I', rz, qz⟩ := hz
    exact SlX.cmpback rz ⟨z', H', I', rz, qz⟩
  refine wE.of (pe_op hop pe_wE pe_wE) ?_
  have q := own_run (E0 := E0) hK h1 ha he E k
  intro pins s I
  refine thn (q pins s I) fun u s1 ⟨x, H1, I1, rx, q1⟩ => ⟨x, H1, I1, rx, ?_⟩
  intro pins s I
  refine thn (q1 pins s I) fun u s1 ⟨y, H2, I2, ry, ad, dx, fs, M, G, s, e1, e2, e3, e4, e5⟩ => ⟨y, H2, I2, ry, ?_⟩
  cases s with
  | ins c' fs' =>
    have ec : c' = c := by simpa [fitI] using e3
    subst ec
    obtain ⟨bd, C', ns', dy, fy, G, rfl, hC', hB, _⟩ := e4
    rw [h1] at hC'
    cases hC'
    exact ⟨ad, dx, fs, bd, e1, rfl, e2, ⟨dy, fy, hB⟩, e5⟩
  | _ => cases e3
theorem op_ownE {C : Addr} {k : Nat} {f : Addr} {fd : FuncData} {ps : List Str} (h2 : PySem.W.findIn X.K (.ref C) "__eq__" = some (some (.ref f))) (h3 : PySem.W.isFn X.K (.ref f) = true) (h5 : PySem.W.notFirst X.K C (.type "list") = true) (h6 : FnOk X.prog X.w X.K X.mg X.base CX0 k f fd ps (spG Γ 2 g)) (h7 : Room k X.A) (h8 : Binds X.K fd ps []) :
    OpR X (compareOp .Eq) (rOwnE C (spG Γ 2 g) E0) := by
  intro pins s σ H x y v u Q I rx ry h
  obtain ⟨ad, dx, fs, rfl, ⟨bd, rfl, hB⟩, hA, q⟩ := h
  cases (show v = Value.ref ad from rx)
  cases (show u = Value.ref bd from ry)
  obtain ⟨mA, J, _⟩ := ins_get I.hok hA
  obtain ⟨od, J, _⟩ := J.look
  obtain ⟨mm, hF⟩ := I.fr
  have fin : wpAny (model X.prog X.w) X.A (call (.ref f) [.ref ad, .ref bd]) (PySem.W.CmpBack (EP X pins σ Q)) X.xe s := by
    refine wpAny_mono (run_fn (us := [.ref ad, .ref bd]) (vs := [.ref ad, .ref bd]) h6 h7 h8 .nil pass0 I (.cons rfl (.cons rfl .nil)) (by simpa using q)) (fun z s' hz => ?_) fun _ _ x => x
    obtain ⟨z', H', I', rz, qz⟩ := hz
    exact SlX.cmpback rz ⟨z', H', I', rz, qz⟩
  show wpAny (model X.prog X.w) X.A (richCompare .Eq _ _) _ _ _
  rcases hB with ⟨dy, fy, hB⟩ | ⟨vs, hB⟩
  · obtain ⟨mB, J', _⟩ := ins_get I.hok hB
    obtain ⟨od', J', _⟩ := J'.look
    exact PySem.W.cmp_K (op := .Eq) (tb := .ref C) h7.units0 hF I.ok.mod.kin J J'.type (by simp [PySem.W.notFirst]) h2 h3 fin
  · obtain ⟨its, r, pl, hz⟩ := I.list (a := bd) (.inl (.inl hB))
    obtain ⟨o, ho, hc, n, hd⟩ := pl.isList
    have hT : s.TypeIs (.ref bd) "list" := ⟨o, ho, hc⟩
    exact PySem.W.cmp_K (op := .Eq) (tb := .type "list") h7.units0 hF I.ok.mod.kin J (hc ▸ (PySem.W.Looks.ld ho).andThen .now) h5 h2 h3 fin
theorem own_eq {fa fb : AE Γ} {C : Addr} {ns : List Str} {r : Sl Γ} {Q : VK} (hK : Gd Γ X) (h1 : Γ.cls c = some (C, ns)) (ha : SdL Γ X [a, b] [fa, fb]) (he : mOwn (fitO c) c g fa fb env = some (r, env')) (E : ER Γ w σ env)
    (k : ∀ v w' Fr, ER Γ w' σ env' → TR Γ w' v r Fr → Step w w' → Fresh w Fr → Q v w'.H) : wE X a σ w.H fun x H1 => wE X b σ H1 fun y H2 => rOwnE C (spG Γ 2 g) E0 x y H2 Q := by
  have q := own_run (E0 := E0) hK h1 ha he E k
  intro pins s I
  refine thn (q pins s I) fun u s1 ⟨x, H1, I1, rx, q1⟩ => ⟨x, H1, I1, rx, ?_⟩
  intro pins s I
  refine thn (q1 pins s I) fun u s1 ⟨y, H2, I2, ry, ad, dx, fs, M, G, s, e1, e2, e3, e4, e5⟩ => ⟨y, H2, I2, ry, ?_⟩
  cases s with
  | ins c' fs' =>
    have ec : c' = c := by simpa [fitO] using e3
    subst ec
    obtain ⟨bd, C', ns', dy, fy, G, rfl, hC', hB, _⟩ := e4
    rw [h1] at hC'
    cases hC'
    exact ⟨ad, dx, fs, e1, ⟨bd, rfl, .inl ⟨dy, fy, hB⟩⟩, e2, e5⟩
  | lst ds =>
    obtain ⟨bd, vs, rfl, hB, _⟩ := e4
    exact ⟨ad, dx, fs, e1, ⟨bd, rfl, .inr ⟨vs, hB⟩⟩, e2, e5⟩
  | dat d =>
    cases d with
    | lst ds =>
      obtain ⟨e4, _⟩ := e4
      cases e4 with
      | lst n hB r => exact ⟨ad, dx, fs, e1, ⟨_, rfl, .inr ⟨_, hB⟩⟩, e2, e5⟩
    | _ => cases e3
  | _ => cases e3
theorem sd_ownEq {fa fb : AE Γ} (h : Own Γ X c "__eq__" g) (ha : SdL Γ X [a, b] [fa, fb]) : SdE Γ X (.Compare a [.Eq] [b] pos) (mOwn (fitO c) c g fa fb) := by
  obtain ⟨C, ns, k0, f, fd, ps, h1, h2, h3, h4, h5, h6, h7, h8⟩ := h
  intro hK σ env r env' w Q he E k
  exact wE.of (pe_cmpR (op_ownE h2 h3 h5 h6 h7 h8) pe_wE pe_wE (nobehind _ (by decide) (by decide))) (own_eq hK h1 ha he E k)
theorem sdt_ownEq {fa fb : AE Γ} (h : Own Γ X c "__eq__" g) (ha : SdL Γ X [a, b] [fa, fb]) : SdT Γ X (.Compare a [.Eq] [b] pos) (toT (mOwn (fitO c) c g fa fb)) := by
  obtain ⟨C, ns, k0, f, fd, ps, h1, h2, h3, h4, h5, h6, h7, h8⟩ := h
  intro hK σ env r env' w Q he E k
  exact wT.of (pt_cmpR (op_ownE h2 h3 h5 h6 h7 h8) pe_wE pe_wE (nobehind _ (by decide) (by decide))) (own_eq (Q := fun x H1 => ∃ c, x = V.bl c ∧ Q c H1) hK h1 ha (toT_some he) E fun v w' Fr E' T p' f => ⟨r, T.bl, k w' E' p'⟩)
end
end G

/-! G20: comprehensions over the items of a dict that an attribute holds -/
namespace G
open PySem L2
def kD : Key → D
  | .inl i => .int i
  | .inr x => .str x
def itemD (q : Key × D) : D := .tup [kD q.1, q.2]
theorem kD_dat {Γ : Gam} {M : Addr → Prop} {H : Hp} : ∀ k, Dat Γ M H (kV k) (kD k)
  | .inl _ => .int _
  | .inr _ => .str _
theorem KDats.get {Γ : Gam} {M : Addr → Prop} {H : Hp} : ∀ {vs : List (Key × V)} {ds : List (Key × D)} {j : Nat} {q : Key × D}, KDats Γ M H vs ds → ds[j]? = some q → ∃ v, vs[j]? = some (q.1, v) ∧ Dat Γ M H v q.2
  | _, _, _, _, .nil, e => by simp at e
  | _, _, 0, _, .cons h r, e => by simp at e; subst e; exact ⟨_, rfl, h⟩
  | _, _, j + 1, q, .cons h r, e => by
    obtain ⟨v, h1, h2⟩ := KDats.get (j := j) (q := q) r (by simpa using e)
    exact ⟨v, by simpa using h1, h2⟩
def mLcD {Γ : Gam} (i : Nat) (f : Str) (vs : List Nat) (t : Eg Γ) (tc : Et Γ) (fe : Ev Γ) : Ev Γ := fun env =>
  match env[i]? with
  | some (.ins c fs) => if Γ.has c f = true then
      match fs.lookup f with
      | some (.dic kvs) => match mLc (fun e => some (kvs.map itemD, e)) vs t tc fe (env.set i .none) with
        | some (r, env1) => match env1[i]? with
          | some .none => some (r, env1.set i (.ins c fs))
          | _ => none
        | none => none
      | _ => none
    else none
  | _ => none
section
variable {Γ : Gam} {X : Cx} {A : List Nat} {σ : St} {env env' : Env Γ} {w : Wd} {x f : Str} {npos fpos apos cpos tpos pos spos : Pos} {elts : List Expr} {kk i : Nat}
theorem lcD_core {elt : Expr} {scope : Scope} {ifs : List Expr} {tt : TT} {tc : Et Γ} {t : Eg Γ} {fe : Ev Γ} {vs : List Nat} {r : Sl Γ} {Q : VK} (hK : Gd Γ X) (hF : FldOk Γ f) (hN : X.N[i]? = some x) (hv : Vis X.env.scope x) (hd : (x == ("__debug__" : Str)) = false) (hcd : (x == ("__classdict__" : Str)) = false)
    (hb1 : attributeBase (.Name x npos) f X.env (eval (.Name x npos) X.env) = eval (.Name x npos) X.env) (hb2 : attributeBase (.Attribute (.Name x npos) f fpos) "items" X.env (eval (.Attribute (.Name x npos) f fpos) X.env) = eval (.Attribute (.Name x npos) f fpos) X.env) (hline : (apos.endLine == cpos.line) = true)
    (hg : AllB X scope fun Y => SdG Γ Y vs (.Tuple elts kk tpos) t) (hc : SdC Γ X scope ifs tt tc) (hf : AllB X scope fun Y => SdE Γ Y elt fe) (he : mLcD i f vs t tc fe env = some (r, env')) (E : ER Γ w σ env)
    (k : ∀ v w' Fr, ER Γ w' σ env' → TR Γ w' v r Fr → Step w w' → Fresh w Fr → Q v w'.H) :
    ∃ d u, w.H d = some u ∧ Mut (some u) ∧ ∀ od, tLc (wI X (.Tuple elts kk tpos) (.Call (.Attribute (.Attribute (.Name x npos) f fpos) "items" apos) [] [] cpos)) (bG X scope (.Tuple elts kk tpos)) tt (bE X scope elt) vs σ (upd w.H d (.frz od u)) fun v H' => H' d = some (.frz od u) ∧ Q v (upd H' d u) := by
  unfold mLcD at he
  split at he
  · rename_i c fs g0
    split at he
    · rename_i hh
      split at he
      · rename_i kvs g2
        split at he
        · rename_i r1 env1 g5
          split at he
          · rename_i g6
            cases he
            obtain ⟨v0, ev, rv⟩ := E.at (i := i) (s := .ins c fs) (by rw [g0]; rfl)
            obtain ⟨a, C, ns, dx, vsF, G, rfl, hC, ha, rs, nG, hFr⟩ := id rv
            obtain ⟨u, G1, e1, h1, h2⟩ := rs.look g2
            obtain ⟨d, us, rfl, hd', ru, nq⟩ := h1
            unfold Gam.has at hh
            rw [hC] at hh
            obtain ⟨c1, c2⟩ := hF c C ns hC hh
            have fd : w.F i d := (hFr d).mpr (.inr (h2 d ((nq d).mpr rfl)))
            have md : w.M d := E.sub i d fd
            have nad : a ≠ d := fun z => nG (z ▸ h2 d ((nq d).mpr rfl))
            refine ⟨d, .dK us, hd', trivial, fun od => ?_⟩
            obtain ⟨El, gol⟩ := (E.moved i).write (o := .frz od (.dK us)) md (fun j z => z.2 (E.dis j i d z.1 fd))
            have unl : ∀ j b, w.F i b → ¬ (w.F j b ∧ j ≠ i) := fun j b z q => q.2 (E.dis j i b q.1 z)
            have lkH : ∀ b, b ≠ d → upd w.H d (.frz od (.dK us)) b = w.H b := fun b nb => upd_ne nb
            have nn : ∀ b, upd w.H d (.frz od (.dK us)) b = none → w.H b = none := fun b y => by
              by_cases hb : b = d
              · rw [hb, upd_same] at y; cases y
              · rw [lkH b hb] at y; exact y
            have kp : ∀ b u, b ≠ d → w.H b = some u → upd w.H d (.frz od (.dK us)) b = some u := fun b u hb e => (lkH b hb).trans e
            refine lc_runX (w := ⟨w.M, fun j b => w.F j b ∧ j ≠ i, upd w.H d (.frz od (.dK us))⟩) hK (fun ds env1' g R kR => ?_) hg hc hf g5 El fun v w2 Fr E2 T2 p2 f2 => ?_
            · cases g
              refine wI.of (pi_items (pe_fld (pe_var hN hv hd hcd) hb1) hb2 hline) ⟨_, ev, a, C, dx, vsF, .ref d, rfl, kp a _ nad ha, hK.k ▸ c1, hK.k ▸ c2, e1, d, od, us, rfl, upd_same, kR (Iti d od us) _ El (Step.refl _) ⟨fun w' p g dom j dd ej => ?_, fun w' p g => ?_⟩⟩
              · have hfr : w'.H d = some (.frz od (.dK us)) := p.keep d _ (fun j => unl j d fd) upd_same
                rw [List.getElem?_map] at ej
                cases q : kvs[j]? with
                | none => rw [q] at ej; cases ej
                | some kv =>
                  rw [q] at ej
                  cases ej
                  obtain ⟨v1, ev1, dv1⟩ := ru.get q
                  refine ⟨⟨hfr, (List.getElem?_eq_some_iff.mp ev1).1⟩, fun y H2 hy => ?_⟩
                  obtain ⟨T, k1, v2, ek, rfl, hT, rfl⟩ := hy
                  rw [ev1] at ek
                  cases ek
                  exact ⟨upd_keep hT, .tup (.inl ⟨fun m => dom T m hT, .inl upd_same⟩) (.cons (kD_dat _) (.cons (((dv1.go gol).go g).go ⟨fun a' u' _ e' => upd_keep hT a' u' e', fun _ n' _ => n'⟩) .nil))⟩
              · have hfr : w'.H d = some (.frz od (.dK us)) := p.keep d _ (fun j => unl j d fd) upd_same
                exact ⟨hfr, by rw [List.length_map, ru.length]; exact Nat.le_refl _⟩
            · have hfr : w2.H d = some (.frz od (.dK us)) := p2.keep d _ (fun j => unl j d fd) upd_same
              refine ⟨hfr, ?_⟩
              have md2 : w2.M d := p2.mu d (fun j => unl j d fd) md
              have od2 : ∀ j, ¬ w2.F j d := p2.off (fun j => unl j d fd) (fun z => by have z' : upd w.H d (.frz od (.dK us)) d = none := z; rw [upd_same] at z'; cases z')
              obtain ⟨E3, go3⟩ := E2.write (o := .dK us) md2 od2
              have hFi2 : ∀ j b, w.F i b → ¬ w2.F j b := fun j b z q => by
                rcases p2.own j b q with ⟨l, y⟩ | y
                · exact unl l b z y
                · exact E.dom b (E.sub i b z) (nn b y)
              have g03 : Go w.M w.H w2.M (upd w2.H d (.dK us)) := ⟨fun b u nb e => by
                  have hb : b ≠ d := fun z => nb (z ▸ md)
                  rw [upd_ne hb]
                  exact p2.keep b u (fun j z => nb (E.sub j b z.1)) (kp b u hb e), fun b nb e m => by
                  rcases p2.src b m with z | z
                  · exact nb z
                  · exact e (nn b z)⟩
              have T3 : TR Γ ⟨w2.M, w2.F, upd w2.H d (.dK us)⟩ (.ref a) (.ins c fs) (w.F i) := ⟨rv.go g03 fun b u fb e => by
                  by_cases hb : b = d
                  · show upd w2.H d (.dK us) b = some u
                    rw [hb, upd_same]; rw [hb, hd'] at e; exact e
                  · show upd w2.H d (.dK us) b = some u
                    rw [upd_ne hb]
                    exact p2.keep b u (fun j => unl j b fb) (kp b u hb e), fun b fb => p2.mu b (fun j => unl j b fb) (E.sub i b fb), fun b j fb => hFi2 j b fb⟩
              have il : i < env1.length := (List.getElem?_eq_some_iff.mp g6).1
              have E4 := E3.set T3 (i := i) il
              rw [List.set_self' ev] at E4
              have frw : ∀ b, Fr b → ¬ w.F i b := fun b z q => by
                rcases f2 b z with ⟨j, y⟩ | y
                · exact unl j b q y
                · exact E.dom b (E.sub i b q) (nn b y)
              refine k v _ Fr E4 ⟨T2.rep.go go3 fun b u z e => ?_, T2.sub, fun b j z q => ?_⟩ ⟨fun b u nb e => ?_, fun b nb m => ?_, fun b m => ?_, fun j b q => ?_, fun b hb => ?_⟩ fun b z => ?_
              · show upd w2.H d (.dK us) b = some u
                rw [upd_ne (fun (y : b = d) => frw b z (y ▸ fd))]; exact e
              · have q' : (if j = i then w.F i b else w2.F j b) := q
                split at q'
                · exact frw b z q'
                · exact T2.off b j z q'
              · have hb : b ≠ d := fun z => nb i (z ▸ fd)
                show upd w2.H d (.dK us) b = some u
                rw [upd_ne hb]
                exact p2.keep b u (fun j z => nb j z.1) (kp b u hb e)
              · exact p2.mu b (fun j z => nb j z.1) m
              · rcases p2.src b m with z | z
                · exact .inl z
                · exact .inr (nn b z)
              · have q' : (if j = i then w.F i b else w2.F j b) := q
                split at q'
                · exact .inl ⟨i, q'⟩
                · rcases p2.own j b q' with ⟨l, y⟩ | y
                  · exact .inl ⟨l, y.1⟩
                  · exact .inr (nn b y)
              · show upd w2.H d (.dK us) b ≠ none
                by_cases hb' : b = d
                · rw [hb', upd_same]; simp
                · rw [upd_ne hb']
                  exact p2.live b (fun y => hb (nn b y))
              · rcases f2 b z with ⟨j, y⟩ | y
                · exact .inl ⟨j, y.1⟩
                · exact .inr (nn b y)
          · cases he
        · cases he
      · cases he
    · cases he
  · cases he
theorem sd_lcD {elt : Expr} {scope : Scope} {own : List (Str × Nat)} {ifs : List Expr} {tt : TT} {tc : Et Γ} {t : Eg Γ} {fe : Ev Γ} (i : Nat) (ok : BlkOk X.N X.env.scope scope own) (hF : FldOk Γ f) (hN : X.N[i]? = some x) (hv : Vis X.env.scope x)
    (hg : AllB X scope fun Y => SdG Γ Y (own.map (·.2)) (.Tuple elts kk tpos) t) (hc : SdC Γ X scope ifs tt tc) (hf : AllB X scope fun Y => SdE Γ Y elt fe) (hd : (x == ("__debug__" : Str)) = false := by decide) (hcd : (x == ("__classdict__" : Str)) = false := by decide)
    (hb1 : attributeBase (.Name x npos) f X.env (eval (.Name x npos) X.env) = eval (.Name x npos) X.env := by rfl) (hb2 : attributeBase (.Attribute (.Name x npos) f fpos) "items" X.env (eval (.Attribute (.Name x npos) f fpos) X.env) = eval (.Attribute (.Name x npos) f fpos) X.env := by rfl) (hline : (apos.endLine == cpos.line) = true := by rfl)
    (hs : ∀ x', foldedSetIterable (.Call (.Attribute (.Attribute (.Name x npos) f fpos) "items" apos) [] [] cpos) X.env x' = pure x' := by intro _; rfl) :
    SdE Γ X (.ListComp elt [⟨.Tuple elts kk tpos, .Call (.Attribute (.Attribute (.Name x npos) f fpos) "items" apos) [] [] cpos, ifs, 0⟩] scope pos) (mLcD i f (own.map (·.2)) t tc fe) :=
  fun hK σ env r env' w Q he E k => wE.of (pe_lock (pe_lc (te := bE X scope elt) (g := bG X scope (.Tuple elts kk tpos)) hK.calm hK.nd pi_wI ok (fun s H C cl fp => ⟨fun pins s' σ H' v u Q I r h => h s H C cl fp u pins s' r I⟩) hc.pts (fun s H C cl fp => ⟨fun pins s' σ H' Q I h => h s H C cl fp pins s' I⟩) hs)) (lcD_core hK hF hN hv hd hcd hb1 hb2 hline hg hc hf he E k)
theorem sds_setLcD {elt : Expr} {scope : Scope} {own : List (Str × Nat)} {ifs : List Expr} {tt : TT} {tc : Et Γ} {t : Eg Γ} {fe : Ev Γ} (l : Nat) {y : Str} {py : Pos} (i : Nat) (hA : l ∈ A) (hy : X.N[l]? = some y) (hyl : X.env.scope.names.lookup y = some .local)
    (hsw : swapsWith (.ListComp elt [⟨.Tuple elts kk tpos, .Call (.Attribute (.Attribute (.Name x npos) f fpos) "items" apos) [] [] cpos, ifs, 0⟩] scope pos) (some (.Name y py)) spos.line X.env = pure true) (ok : BlkOk X.N X.env.scope scope own) (hF : FldOk Γ f) (hN : X.N[i]? = some x) (hv : Vis X.env.scope x)
    (hg : AllB X scope fun Y => SdG Γ Y (own.map (·.2)) (.Tuple elts kk tpos) t) (hc : SdC Γ X scope ifs tt tc) (hf : AllB X scope fun Y => SdE Γ Y elt fe) (hd : (x == ("__debug__" : Str)) = false := by decide) (hcd : (x == ("__classdict__" : Str)) = false := by decide)
    (hb1 : attributeBase (.Name x npos) f X.env (eval (.Name x npos) X.env) = eval (.Name x npos) X.env := by rfl) (hb2 : attributeBase (.Attribute (.Name x npos) f fpos) "items" X.env (eval (.Attribute (.Name x npos) f fpos) X.env) = eval (.Attribute (.Name x npos) f fpos) X.env := by rfl) (hline : (apos.endLine == cpos.line) = true := by rfl)
    (hs : ∀ x', foldedSetIterable (.Call (.Attribute (.Attribute (.Name x npos) f fpos) "items" apos) [] [] cpos) X.env x' = pure x' := by intro _; rfl) :
    SdS Γ X A (.Assign [.Name y py] (.ListComp elt [⟨.Tuple elts kk tpos, .Call (.Attribute (.Attribute (.Name x npos) f fpos) "items" apos) [] [] cpos, ifs, 0⟩] scope pos) spos) (mSet l (mLcD i f (own.map (·.2)) t tc fe)) := by
  intro hK σ env fl env' w D he E k
  refine wS.of (ps_lock (ps_setLc (te := bE X scope elt) (g := bG X scope (.Tuple elts kk tpos)) hK.calm hK.nd hy hyl hsw pi_wI ok (fun s H C cl fp => ⟨fun pins s' σ H' v u Q I r h => h s H C cl fp u pins s' r I⟩) hc.pts (fun s H C cl fp => ⟨fun pins s' σ H' Q I h => h s H C cl fp pins s' I⟩) hs)) ?_
  unfold mSet at he
  cases g1 : mLcD i f (own.map (·.2)) t tc fe env with
  | none => simp only [g1] at he; cases he
  | some q =>
    obtain ⟨s, env1⟩ := q
    simp only [g1] at he
    split at he
    · rename_i hl
      cases he
      exact lcD_core (Q := fun v H' => D.nx (σ.set l (some v)) H') hK hF hN hv hd hcd hb1 hb2 hline hg hc hf g1 E fun v w1 Fr E1 T1 p1 f1 => k _ ⟨w1.M, fun j a => if j = l then Fr a else w1.F j a, w1.H⟩ (E1.set T1 hl) (p1.set f1) (Agree.set hA)
    · cases he
end
end G

/-! G21: dicts compared, small tuples ordered, list(d), d.get(k, None), isinstance of an own class, a fresh list changed, a pair of names of which a cell is -/
namespace G
open PySem L2
def eqKV (ks ls : List (Key × D)) : Bool := ks.length == ls.length && ks.all fun q => match lookD ls q.1 with | some d => eqD q.2 d | none => false
def okKV (ks : List (Key × D)) : Bool := ks.all fun q => okD q.2
section
variable {Γ : Gam} {X : Cx} {A : List Nat} {σ : St} {env env' : Env Γ} {w : Wd} {a b e : Expr} {es : List Expr} {fa fb : AE Γ} {q1 q2 q : QE} {pos : Pos}
theorem lookD_ok {ls : List (Key × D)} {k : Key} {d : D} (h : lookD ls k = some d) (o : okKV ls = true) : okD d = true := by
  unfold lookD at h
  cases g : ls.find? fun kv => decide (kv.1 = k) with
  | none => rw [g] at h; cases h
  | some z =>
    rw [g] at h
    cases h
    exact List.all_eq_true.mp o z (List.mem_of_find?_eq_some g)
theorem hits_D {pins : List (Addr × Obj)} {s : Shared} {H : Hp} {M : Addr → Prop} (I : Inv X pins σ H s) (hK : Γ.K = X.K) (hu : X.A.in1.units + 64 < cLine) {ls : List (Key × V)} {vb : List (Key × Value)} {ld : List (Key × D)} (rb : KV ls vb) (db : KDats Γ M H ls ld) (ob : okKV ld = true) :
    ∀ {ks : List (Key × V)} {va : List (Key × Value)} {kd : List (Key × D)}, KV ks va → KDats Γ M H ks kd → okKV kd = true → PySem.W.KeqHits X.A.in1 s vb va (kd.all fun q => match lookD ld q.1 with | some d => eqD q.2 d | none => false) := by
  intro ks va kd ra
  unfold KV at ra
  induction ra generalizing kd with
  | nil => intro dk ok; cases dk; exact .nil
  | @cons p q ps qs h t ih =>
    intro dk ok
    cases dk with
    | @cons k v _ d ds hd dk =>
      obtain ⟨k', v'⟩ := q
      obtain ⟨h1, h2⟩ := h
      have h1' : k = k' := h1
      have h2' : RelV v v' := h2
      subst h1'
      have ok' : okD d = true ∧ okKV ds = true := by unfold okKV at ok ⊢; rw [List.all_cons, Bool.and_eq_true] at ok; exact ok
      rw [List.all_cons]
      rcases db.look (k := k) with ⟨e1, e2⟩ | ⟨d', u, e1, e2, hu'⟩
      · simp only [e1, Bool.false_and]
        have rr : RelO none (valueAt vb k) := by rw [← e2]; exact rb.val k
        exact .miss (RelO.none_of rr)
      · simp only [e1]
        have rr : RelO (some u) (valueAt vb k) := by rw [← e2]; exact rb.val k
        obtain ⟨y, hy, ry⟩ := rr.some_of
        obtain ⟨as, r1⟩ := Dp.reads I d.toPy v v' (hK ▸ hd.dp (SeqAt.canLay_of_shaped ok'.1)) h2'
        obtain ⟨bs, r2⟩ := Dp.reads I d'.toPy u y (hK ▸ hu'.dp (SeqAt.canLay_of_shaped (lookD_ok e1 ob))) ry
        exact .hit hy (PySem.W.keq_at r1 r2 ok'.1 (lookD_ok e1 ob) hu) (ih dk ok'.2)
def rDEq (Γ : Gam) (g : Bool → Bool) : R2 := fun x y H Q => ∃ M a b ks ls kd ld, x = .ref a ∧ y = .ref b ∧ H a = some (.dK ks) ∧ H b = some (.dK ls) ∧ KDats Γ M H ks kd ∧ KDats Γ M H ls ld ∧ okKV kd = true ∧ okKV ld = true ∧ Q (.bl (g (eqKV kd ld))) H
theorem Gd.in1u (g : Gd Γ X) : X.A.in1.units + 64 < cLine := by have := g.un; show X.A.units + 1 + 64 < cLine; omega
theorem Gd.un0 (g : Gd Γ X) : X.A.units < cLine := by have := g.un; omega
theorem op_deq (g : Gd Γ X) : OpR X (compareOp .Eq) (rDEq Γ id) := by
  intro pins s σ H x y v u Q I rx ry h
  obtain ⟨M, a, b, ks, ls, kd, ld, rfl, rfl, ea, eb, dk, dl, ok, ol, q⟩ := h
  obtain rfl : v = Value.ref a := rx
  obtain rfl : u = Value.ref b := ry
  obtain ⟨_, ya, va, ra, da⟩ := (show ObjOk X.prog X.w H s.heap a (.dK ks) from I.hok a _ ea)
  obtain ⟨_, yb, vb, rb, db⟩ := (show ObjOk X.prog X.w H s.heap b (.dK ls) from I.hok b _ eb)
  have l1 : va.length = kd.length := by rw [← dk.length]; exact (Paired.length ra).symm
  have l2 : vb.length = ld.length := by rw [← dl.length]; exact (Paired.length rb).symm
  refine PySem.W.keq_eq (knd := mixKind X.prog X.w) ya yb da db g.un0 (fun _ => hits_D I g.k g.in1u rb dl ol ra dk ok) (fin_bl I q ?_)
  rw [l1, l2]; rfl
theorem op_dne (g : Gd Γ X) : OpR X (compareOp .NotEq) (rDEq Γ not) := by
  intro pins s σ H x y v u Q I rx ry h
  obtain ⟨M, a, b, ks, ls, kd, ld, rfl, rfl, ea, eb, dk, dl, ok, ol, q⟩ := h
  obtain rfl : v = Value.ref a := rx
  obtain rfl : u = Value.ref b := ry
  obtain ⟨_, ya, va, ra, da⟩ := (show ObjOk X.prog X.w H s.heap a (.dK ks) from I.hok a _ ea)
  obtain ⟨_, yb, vb, rb, db⟩ := (show ObjOk X.prog X.w H s.heap b (.dK ls) from I.hok b _ eb)
  have l1 : va.length = kd.length := by rw [← dk.length]; exact (Paired.length ra).symm
  have l2 : vb.length = ld.length := by rw [← dl.length]; exact (Paired.length rb).symm
  refine PySem.W.keq_ne (knd := mixKind X.prog X.w) ya yb da db g.un0 (fun _ => hits_D I g.k g.in1u rb dl ol ra dk ok) (fin_bl I q ?_)
  rw [l1, l2]; rfl
def pDEqG {Γ : Gam} (g : Bool → Bool) (x y : Sl Γ) : Option (Sl Γ) :=
  match x, y with
  | .dic ks, .dic ls => if okKV ks && okKV ls then some (db (g (eqKV ks ls))) else none
  | _, _ => none
theorem pDEqG_ok {g : Bool → Bool} : Prim2 Γ (rDEq Γ g) (pDEqG g) := by
  intro M H x y sx sy s Gx Gy Q dom hp hx hy k
  unfold pDEqG at hp
  split at hp
  · rename_i ks ls
    split at hp
    · rename_i c
      cases hp
      rw [Bool.and_eq_true] at c
      obtain ⟨p, vs, rfl, hp, r⟩ := hx.dic
      obtain ⟨p', vs', rfl, hp', r'⟩ := hy.dic
      exact ⟨M, p, p', vs, vs', ks, ls, rfl, rfl, hp, hp', r, r', c.1, c.2, k.dat (.bl _)⟩
    · cases hp
  · cases hp
def pDEq {Γ : Gam} : Sl Γ → Sl Γ → Option (Sl Γ) := pDEqG id
def pDNe {Γ : Gam} : Sl Γ → Sl Γ → Option (Sl Γ) := pDEqG not
theorem c_deq : Cmp Γ X .Eq pDEq := ⟨_, fun g => op_deq g, pDEqG_ok⟩
theorem c_dne : Cmp Γ X .NotEq pDNe := ⟨_, fun g => op_dne g, pDEqG_ok⟩
/-- dicts at two places -/
theorem sd_deqQ (ha : SdQ Γ X a q1) (hb : SdQ Γ X b q2) : SdE Γ X (.Compare a [.Eq] [b] pos) (mQ2 pDEq q1 q2) :=
  fun hK σ env r env' w Q he E k => wE.of (pe_cmpR (op_deq hK) pe_wE pe_wE (nobehind _ (by decide) (by decide))) (runQ2 pDEqG_ok ha hb hK he E k)

/-! ### tuples of three, their items ints, texts, truths -/
def ltF : D → D → Option Bool
  | .int i, .int j => some (decide (i < j))
  | .str x, .str y => some (sLt x y)
  | .bl p, .bl q => some (!p && q)
  | _, _ => none
def leF : D → D → Option Bool
  | .int i, .int j => some (decide (i ≤ j))
  | .str x, .str y => some (!sLt y x)
  | .bl p, .bl q => some (!p || q)
  | _, _ => none
def pT3 {Γ : Gam} (f : D → D → Option Bool) (z : Bool) (x y : Sl Γ) : Option (Sl Γ) :=
  match x, y with
  | .dat (.tup [a1, a2, a3]), .dat (.tup [b1, b2, b3]) => match f a1 b1, f a2 b2, f a3 b3 with
    | some r1, some r2, some r3 => some (db (if eqD a1 b1 = true then if eqD a2 b2 = true then if eqD a3 b3 = true then z else r3 else r2 else r1))
    | _, _, _ => none
  | _, _ => none
theorem ltF_eq {A : Around} {s : Shared} {M : Addr → Prop} {H : Hp} {d e : D} {v w : V} {x y : Value} {r : Bool} (hr : ltF d e = some r) (h1 : Dat Γ M H v d) (h2 : Dat Γ M H w e) (r1 : RelV v x) (r2 : RelV w y) : SeqAt.EqAt A s x y (eqD d e) ∧ Ob.RcOp .Lt A s x y r := by
  cases d <;> cases e <;> first | (simp [ltF] at hr; done) | skip
  · rename_i p q
    cases h1; cases h2; cases hr; cases r1; cases r2
    exact ⟨by unfold eqD D.toPy PyData.eqv; exact SeqAt.EqAt.bool_bool _ _, fun _ _ _ _ h => PyProof.Rows.lt_bool (by cases p <;> cases q <;> exact h)⟩
  · cases h1; cases h2; cases hr
    obtain ⟨t, rfl⟩ := (show ∃ t, x = Value.int _ t from r1)
    obtain ⟨t', rfl⟩ := (show ∃ t, y = Value.int _ t from r2)
    exact ⟨by unfold eqD D.toPy PyData.eqv; exact SeqAt.EqAt.int_int _ _ _ _, Ob.RcOp.lt_int _ _ _ _⟩
  · cases h1; cases h2; cases hr
    obtain ⟨t, rfl⟩ := (show ∃ t, x = Value.str _ t from r1)
    obtain ⟨t', rfl⟩ := (show ∃ t, y = Value.str _ t from r2)
    exact ⟨by unfold eqD D.toPy PyData.eqv; exact SeqAt.EqAt.str_str _ _ _ _, fun _ _ _ _ h => PyProof.Rows.lt_str h⟩
theorem leF_eq {A : Around} {s : Shared} {M : Addr → Prop} {H : Hp} {d e : D} {v w : V} {x y : Value} {r : Bool} (hr : leF d e = some r) (h1 : Dat Γ M H v d) (h2 : Dat Γ M H w e) (r1 : RelV v x) (r2 : RelV w y) : SeqAt.EqAt A s x y (eqD d e) ∧ Ob.RcOp .LtE A s x y r := by
  cases d <;> cases e <;> first | (simp [leF] at hr; done) | skip
  · rename_i p q
    cases h1; cases h2; cases hr; cases r1; cases r2
    exact ⟨by unfold eqD D.toPy PyData.eqv; exact SeqAt.EqAt.bool_bool _ _, fun _ _ _ _ h => PyProof.Rows.le_bool (by cases p <;> cases q <;> exact h)⟩
  · cases h1; cases h2; cases hr
    obtain ⟨t, rfl⟩ := (show ∃ t, x = Value.int _ t from r1)
    obtain ⟨t', rfl⟩ := (show ∃ t, y = Value.int _ t from r2)
    exact ⟨by unfold eqD D.toPy PyData.eqv; exact SeqAt.EqAt.int_int _ _ _ _, Ob.RcOp.le_int _ _ _ _⟩
  · cases h1; cases h2; cases hr
    obtain ⟨t, rfl⟩ := (show ∃ t, x = Value.str _ t from r1)
    obtain ⟨t', rfl⟩ := (show ∃ t, y = Value.str _ t from r2)
    exact ⟨by unfold eqD D.toPy PyData.eqv; exact SeqAt.EqAt.str_str _ _ _ _, fun _ _ _ _ h => PySem.P.le_str (by unfold sLt at h; simpa using h)⟩
def rT3 (Γ : Gam) (f : D → D → Option Bool) (z : Bool) : R2 := fun x y H Q => ∃ M a b v1 v2 v3 u1 u2 u3 a1 a2 a3 b1 b2 b3 r1 r2 r3, x = .ref a ∧ y = .ref b ∧ SqT Γ.K H a [v1, v2, v3] ∧ SqT Γ.K H b [u1, u2, u3] ∧ Dat Γ M H v1 a1 ∧ Dat Γ M H v2 a2 ∧ Dat Γ M H v3 a3 ∧ Dat Γ M H u1 b1 ∧ Dat Γ M H u2 b2 ∧ Dat Γ M H u3 b3 ∧
  f a1 b1 = some r1 ∧ f a2 b2 = some r2 ∧ f a3 b3 = some r3 ∧ Q (.bl (if eqD a1 b1 = true then if eqD a2 b2 = true then if eqD a3 b3 = true then z else r3 else r2 else r1)) H
theorem pT3_ok {f : D → D → Option Bool} {z : Bool} : Prim2 Γ (rT3 Γ f z) (pT3 f z) := by
  intro M H x y sx sy s Gx Gy Q dom hp hx hy k
  unfold pT3 at hp
  split at hp
  · rename_i a1 a2 a3 b1 b2 b3
    split at hp
    · rename_i r1 r2 r3 g1 g2 g3
      cases hp
      obtain ⟨hx, _⟩ := hx
      obtain ⟨hy, _⟩ := hy
      cases hx with
      | tup ht r =>
        cases hy with
        | tup ht' r' =>
          cases r with
          | cons h1 r => cases r with
            | cons h2 r => cases r with
              | cons h3 r =>
                cases r
                cases r' with
                | cons h1' r' => cases r' with
                  | cons h2' r' => cases r' with
                    | cons h3' r' =>
                      cases r'
                      exact ⟨M, _, _, _, _, _, _, _, _, a1, a2, a3, b1, b2, b3, r1, r2, r3, rfl, rfl, ht.sq, ht'.sq, h1, h2, h3, h1', h2', h3', g1, g2, g3, k.dat (.bl _)⟩
    · cases hp
  · cases hp
theorem vals3 {v1 v2 v3 : V} {us : List Value} (r : Vals [v1, v2, v3] us) : ∃ x1 x2 x3, us = [x1, x2, x3] ∧ RelV v1 x1 ∧ RelV v2 x2 ∧ RelV v3 x3 := by
  cases r with
  | cons r1 r => cases r with
    | cons r2 r => cases r with
      | cons r3 r => cases r; exact ⟨_, _, _, rfl, r1, r2, r3⟩
theorem op_t3 {op : CmpOp} {f : D → D → Option Bool} {z : Bool} (g : Gd Γ X) (hop : ∀ x y, compareOp op x y = richCompare op x y) (hf : ∀ {A : Around} {s : Shared} {M : Addr → Prop} {H : Hp} {d e : D} {v w : V} {x y : Value} {r : Bool}, f d e = some r → Dat Γ M H v d → Dat Γ M H w e → RelV v x → RelV w y → SeqAt.EqAt A s x y (eqD d e) ∧ Ob.RcOp op A s x y r)
    (ht : ∀ {A : Around} {s : Shared} {l b : Addr} {i1 i2 : Array Value} {e r : Nat → Bool}, s.heap.IsTuple l i1 → s.heap.IsTuple b i2 → A.units < cLine → i1.size = 3 → i2.size = 3 → (∀ j (h1 : j < i1.size) (h2 : j < i2.size), SeqAt.EqAt A.in1 s i1[j] i2[j] (e j)) → (∀ j (h1 : j < i1.size) (h2 : j < i2.size), e j = false → Ob.RcOp op A.in1 s i1[j] i2[j] (r j)) → Ob.RcOp op A s (.ref l) (.ref b) (Ob.lexAt e r z 0 3)) : OpR X (compareOp op) (rT3 Γ f z) := by
  intro pins s σ H x y v u Q I rx ry h
  obtain ⟨M, a, b, v1, v2, v3, u1, u2, u3, a1, a2, a3, b1, b2, b3, r1, r2, r3, rfl, rfl, hA, hB, d1, d2, d3, e1, e2, e3, g1, g2, g3, q⟩ := h
  obtain rfl : v = Value.ref a := rx
  obtain rfl : u = Value.ref b := ry
  rw [g.k] at hA hB
  obtain ⟨its, ra, p1, _⟩ := I.tuple hA
  obtain ⟨its2, rb, p2, _⟩ := I.tuple hB
  obtain ⟨x1, x2, x3, rfl, m1, m2, m3⟩ := vals3 ra
  obtain ⟨y1, y2, y3, rfl, n1, n2, n3⟩ := vals3 rb
  have R := ht (A := X.A) (s := s) (e := fun j => match j with | 0 => eqD a1 b1 | 1 => eqD a2 b2 | _ => eqD a3 b3) (r := fun j => match j with | 0 => r1 | 1 => r2 | _ => r3) p1 p2 g.un0 rfl rfl (fun j h1 h2 => by
      match j, h1 with
      | 0, _ => exact (hf g1 d1 e1 m1 n1).1
      | 1, _ => exact (hf g2 d2 e2 m2 n2).1
      | 2, _ => exact (hf g3 d3 e3 m3 n3).1
      | n + 3, h => exact absurd h (by simp)) (fun j h1 h2 _ => by
      match j, h1 with
      | 0, _ => exact (hf g1 d1 e1 m1 n1).2
      | 1, _ => exact (hf g2 d2 e2 m2 n2).2
      | 2, _ => exact (hf g3 d3 e3 m3 n3).2
      | n + 3, h => exact absurd h (by simp))
  rw [hop]
  exact R X.prog X.w X.xe (EP X pins σ Q) ⟨.bl _, H, I, rfl, q⟩
def pTLt {Γ : Gam} : Sl Γ → Sl Γ → Option (Sl Γ) := pT3 ltF false
def pTLe {Γ : Gam} : Sl Γ → Sl Γ → Option (Sl Γ) := pT3 leF true
theorem op_tlt (g : Gd Γ X) : OpR X (compareOp .Lt) (rT3 Γ ltF false) := op_t3 g (fun _ _ => rfl) ltF_eq fun {A s l b i1 i2 e r} h1 h2 hu s1 s2 he hr => by
  have := Ob.RcOp.tuples_lt h1 h2 hu he hr
  rw [s1, s2] at this
  exact this
theorem op_tle (g : Gd Γ X) : OpR X (compareOp .LtE) (rT3 Γ leF true) := op_t3 g (fun _ _ => rfl) leF_eq fun {A s l b i1 i2 e r} h1 h2 hu s1 s2 he hr => by
  have := Ob.RcOp.tuples_le h1 h2 hu he hr
  rw [s1, s2] at this
  exact this
theorem c_tlt : Cmp Γ X .Lt pTLt := ⟨_, fun g => op_tlt g, pT3_ok⟩
theorem c_tle : Cmp Γ X .LtE pTLe := ⟨_, fun g => op_tle g, pT3_ok⟩

/-! ### list(d), d.get(k, None) -/
def pListD {Γ : Gam} (x : Sl Γ) : Option (Sl Γ) :=
  match x with
  | .dic kvs => some (.lst (kvs.map fun q => kD q.1))
  | _ => none
theorem keys_dats {M : Addr → Prop} {H : Hp} : ∀ {vs : List (Key × V)} {kvs : List (Key × D)}, KDats Γ M H vs kvs → Dats Γ M H (vs.map fun q => kV q.1) (kvs.map fun q => kD q.1)
  | _, _, .nil => .nil
  | _, _, .cons _ r => .cons (kD_dat _) (keys_dats r)
theorem pListD_ok : Prim1 Γ (fun x H Q => ∃ p kvs, x = V.ref p ∧ H p = some (.dK kvs) ∧ ∀ q, H q = none → Q (.ref q) (upd H q (.lst (kvs.map fun kv => kV kv.1)))) (pListD (Γ := Γ)) := by
  intro M H x sx s Gx Q dom hp hx k
  unfold pListD at hp
  split at hp
  · rename_i kvs
    cases hp
    obtain ⟨p, vs, rfl, hp, r⟩ := hx.dic
    exact ⟨p, vs, rfl, hp, fun q hq => k.lst (keys_dats r) hq⟩
  · cases hp
theorem sd_listD {p : Pos} (hg : Gl X "list") (hm : X.mg "list" = none) (ha : SdQ Γ X a q) (na : NS X a) : SdE Γ X (.Call (.Name "list" p) [a] [] pos) (mQ1 pListD q) := by
  intro hK σ env r env' w Q he E k
  refine wE.of (pe_callTy (x := "list") (call_list_dK hK.calm) hg hm (by decide +kernel) (pa_wL (es := [a]) fun e h => by rw [List.mem_singleton.mp h]; exact na) (by decide) (by decide) (na _) rfl) ?_
  have h := runQ1 pListD_ok ha hK he E k
  intro pins s I
  refine thn (h pins s I) fun u s1 ⟨x, H1, I1, rx, p, kvs, ex, hp, q⟩ => ⟨x, H1, I1, rx, p, kvs, by rw [ex], hp, q⟩
def pDGetN {Γ : Gam} (x y : Sl Γ) : Option (Sl Γ) :=
  match x, y with
  | .dic kvs, .dat kd => match keyOf kd with
    | some k => some (.dat ((lookD kvs k).getD .non))
    | none => none
  | _, _ => none
theorem sd_dgetN {apos cpos p3 : Pos} {j : Nat} (ha : SdQ Γ X a q1) (hb : SdQ Γ X b q2) (m : M2 X a "get" apos b (.Constant .none j p3) cpos) : SdE Γ X (.Call (.Attribute a "get" apos) [b, .Constant .none j p3] [] cpos) (mQ2 pDGetN q1 q2) := by
  intro hK σ env r env' w Q he E k
  refine wE.of (pe_dget2 hK.hu pe_wE pe_wE pe_non m) ?_
  unfold mQ2 at he
  split at he
  · rename_i s1 s2 g1 g2
    unfold pDGetN at he
    split at he
    · rename_i kvs kd
      split at he
      · rename_i kk g
        cases he
        refine ha hK σ env _ w _ g1 E fun v G rv _ => ?_
        obtain ⟨p, vs, rfl, hp', rr⟩ := rv.dic
        refine ⟨p, rfl, .inl ⟨vs, .inl hp'⟩, hb hK σ env _ w _ g2 E fun u G2 ru _ => ⟨valV vs kk, by rw [keyOf_dat ru.1 g]; exact DGet.k hp', ?_⟩⟩
        rcases rr.look (k := kk) with ⟨h1, h2⟩ | ⟨d, v, h1, h2, h3⟩
        · rw [h1] at k; rw [h2]
          exact (res_of E k).dat .non
        · rw [h1] at k; rw [h2]
          exact (res_of E k).dat h3
      · cases he
    · cases he
  · cases he

/-! ### isinstance(x, C), C an own class -/
structure IsC (Γ : Gam) (X : Cx) (c : Nat) (x : Str) : Prop where
  ex : ∃ C ns, Γ.cls c = some (C, ns) ∧ X.mg x = some (.ref C) ∧ Cls X.K C ∧ PySem.W.findIn X.K (.ref C) "__class__" = some (some (.builtin "object.__class__")) ∧ PySem.W.specialIn X.K (.builtin "object.__class__") "__get__" = some (some (.builtin "getset_descriptor.__get__")) ∧
    PySem.W.takesIn X.K (.builtin "object.__class__") = some true ∧ PySem.W.mroIn X.K C (.type "object") = some true ∧ PySem.W.kitOne X.K (.ref C) (.ref C) = some true ∧ PySem.W.kitOne X.K (.type "list") (.ref C) = some false
def pIsC {Γ : Gam} (c : Nat) (s : Sl Γ) : Option (Sl Γ) :=
  match s with
  | .ins c' _ => if c' = c then some (db true) else none
  | .lst _ => some (db false)
  | .dat (.lst _) => some (db false)
  | _ => none
theorem sd_isC {c : Nat} {x : Str} {p p2 : Pos} (h : IsC Γ X c x) (hg : Gl X "isinstance") (hm : X.mg "isinstance" = none) (hgT : Gl X x) (ha : SdA Γ X a fa) (na : NS X a) (hdT : (x == ("__debug__" : Str)) = false := by decide)
    (hs2 : ∀ es, starEach (.Name x p2 :: es) X.env = (false, eval (.Name x p2) X.env) :: starEach es X.env := by intro _; rfl) (hpl : (backTo pos (starEach [.Name x p2] X.env)).any (·.1) = false := by rfl) :
    SdE Γ X (.Call (.Name "isinstance" p) [a, .Name x p2] [] pos) (m1 (pIsC c) fa) := by
  obtain ⟨C, ns, h1, h2, h3, h4, h5, h6, h7, h8, h9⟩ := h
  intro hK σ env r env' w Q he E k
  refine wE.of (pe_callB (id := "isinstance") (x := "isinstance") call_isi hg hm PyProof.Rows.boot_isinstance (pa_cons pe_wE (pa_cons (pe_glob (v := .ref C) hgT h2 rfl hdT) pa_nil (hs2 [])) (na _)) (by decide) (by decide) (na _) hpl) ?_
  refine run1 (r := fun x H Q => rIsi X.K [x, .ref C] H Q) ?_ ha hK he E k
  intro M H x sx s Gx Q dom hp hx k
  unfold pIsC at hp
  split at hp
  · rename_i c' fs
    split at hp
    · rename_i ec
      subst ec
      cases hp
      obtain ⟨ad, C', ns', dx, vs, G, rfl, hC, hA, _⟩ := hx
      rw [h1] at hC
      cases hC
      exact ⟨_, .ref C, .ref C, .ref C, true, rfl, .own C, .base (.ins hA h3 h4 h5 h6 h7), h8, k.dat (.bl _)⟩
    · cases hp
  · cases hp
    obtain ⟨p, vs, rfl, hp, _⟩ := hx
    exact ⟨_, .ref C, .type "list", .ref C, false, rfl, .own C, .base (.lst hp), h9, k.dat (.bl _)⟩
  · cases hp
    obtain ⟨hx, _⟩ := hx
    cases hx with
    | lst n hp r => exact ⟨_, .ref C, .type "list", .ref C, false, rfl, .own C, .base (.lst hp), h9, k.dat (.bl _)⟩
  · cases hp

/-! ### a fresh list changed: e.append(..) -/
def mMutT {Γ : Gam} (f : Ev Γ) (u : List D → List (Sl Γ) → Option (D × List D)) (as : List (AE Γ)) : Ev Γ := fun env =>
  match f env with
  | some (.lst ds, env1) => match evAs as env1 with
    | none => none
    | some (xs, env2) => match peeks xs env2 with
      | some ss => (u ds ss).map fun q => (.dat q.1, env2)
      | none => none
  | _ => none
theorem sd_mutT {o : Expr} {fo : Ev Γ} {as : List (AE Γ)} {name : Str} {id : String} {apos cpos : Pos} {r : V → List V → Hp → VK → Prop} {u : List D → List (Sl Γ) → Option (D × List D)} (slot : Slot "list" name id) (hty : typeOf (.builtin id) = pure (.type "method_descriptor")) (rule : MtR X id r) (hu : MutOk Γ r u) (ho : SdE Γ X o fo) (ha : SdL Γ X (e :: es) as)
    (hbase : attributeBase o name X.env (eval o X.env) = eval o X.env := by rfl)
    (hfew : ((backTo cpos (starEach (e :: es) X.env)).all (fun x => !x.1) && (backToKw cpos (keywordEach [] X.env)).all (fun x => x.1.isSome) && decide ((e :: es).length + ([] : List Keyword).length + (if ([] : List Keyword).isEmpty then 0 else 1) < 30)) = true := by rfl)
    (hline : (apos.endLine == cpos.line) = true := by rfl) (hplain : (backTo cpos (starEach es X.env)).any (·.1) = false := by rfl) :
    SdE Γ X (.Call (.Attribute o name apos) (e :: es) [] cpos) (mMutT fo u as) := by
  intro hK σ env s env' w Q he E k
  refine wE.of (pe_bm PySem.F.plainAttrs_list slot hty rule pe_wE (pa_wL ha.ns) hbase hfew hline (ha.ns e List.mem_cons_self es) hplain) ?_
  unfold mMutT at he
  split at he
  · rename_i ds env1 g0
    cases g1 : evAs as env1 with
    | none => simp only [g1] at he; cases he
    | some q =>
      obtain ⟨xs, env2⟩ := q
      simp only [g1] at he
      split at he
      · rename_i ss g2
        cases g4 : u ds ss with
        | none => rw [g4] at he; cases he
        | some q =>
          obtain ⟨res, ds'⟩ := q
          rw [g4] at he
          cases he
          refine ho hK σ env _ _ w _ g0 E fun v w1 Fr E1 T1 p1 f1 => ?_
          have rep := T1.rep
          obtain ⟨p, vs, rfl, hp, rp, n⟩ := rep
          refine ⟨.inl ⟨rfl, vs, SqL.of hp⟩, ?_⟩
          refine sdl_run hK ha g1 E1 fun ws w2 Frs E2 A2 p2 f2 => ?_
          have T2 := TR.step E1 T1 p2
          have fp : Fr p := (n p).mpr rfl
          have hp2 := p2.keep p _ (fun j => T1.off p j fp) hp
          have m2 := T2.sub p fp
          refine hu w2.M w2.H p vs ds ws ss res ds' Q m2 hp2 (rp.go (E1.go p2)) (A2.peeks E2 g2) g4 fun y vs' r' hy => ?_
          obtain ⟨E3, go3⟩ := E2.write (o := .lst vs') m2 (fun j => T2.off p j fp)
          refine k y ⟨w2.M, w2.F, upd w2.H p (.lst vs')⟩ (fun _ => False) E3 (TR.dat (hy _ _ go3)) ?_ fun _ z => z.elim
          have p12 := p1.trans p2 E.dom
          refine ⟨fun b o nb eo => ?_, p12.mu, p12.src, p12.own, fun b hb => ?_⟩
          · show upd w2.H p (.lst vs') b = some o
            have nbp : b ≠ p := fun z => by
              rcases f1 p fp with ⟨j, y⟩ | y
              · exact nb j (z ▸ y)
              · rw [z, y] at eo; cases eo
            rw [upd_ne nbp]
            exact p12.keep b o nb eo
          · show upd w2.H p (.lst vs') b ≠ none
            by_cases z : b = p
            · rw [z, upd_same]; simp
            · rw [upd_ne z]; exact p12.live b hb
      · cases he
  · cases he

/-! ### a, b = e, f where a name is a cell -/
theorem sds_parC {i j : Nat} {x y : Str} {fa fb : Ev Γ} {px py pt : Pos} {kt k2 pt2} (hAi : i ∈ A) (hAj : j ∈ A) (hi : X.N[i]? = some x) (hj : X.N[j]? = some y) (hij : i ≠ j)
    (hx : Loc X.env.scope x) (hy : Loc X.env.scope y) (hfx : X.fn x = true ∨ X.env.scope.names.lookup x = some .local) (hfy : X.fn y = true ∨ X.env.scope.names.lookup y = some .local) (ha : SdE Γ X a fa) (na : NS X a) (hb : SdE Γ X b fb) (nb : NS X b)
    (hs : swapsWithSole [.Tuple [.Name x px, .Name y py] kt pt] (.Tuple [a, b] k2 pt2) pos.line X.env = pure false := by rfl) (hw : swappedStores [.Tuple [.Name x px, .Name y py] kt pt] (.Tuple [a, b] k2 pt2) X.env = pure none := by rfl)
    (h1 : (assignEach [.Tuple [.Name x px, .Name y py] kt pt] X.env).map (·.2) = [assign (.Tuple [.Name x px, .Name y py] kt pt) X.env] := by rfl)
    (h2 : (assignEach [.Name x px, .Name y py] X.env).length = 2 := by rfl) (h3 : (assignEach [.Name x px, .Name y py] X.env).findIdx? (·.1) = none := by rfl) :
    SdS Γ X A (.Assign [.Tuple [.Name x px, .Name y py] kt pt] (.Tuple [a, b] k2 pt2) pos) (mPar i j fa fb) := by
  intro hK σ env fl env' w D he E k
  refine wS.of (ps_asg (pe_tup (pa_wL (es := [a, b]) fun e h => by rcases List.mem_cons.mp h with z | z; (rw [z]; exact na); (rw [List.mem_singleton.mp z]; exact nb))) (pg_tup hK.calm (pgs_cons (pg_name hK.nd hi hx hfx) (pgs_cons (pg_name hK.nd hj hy hfy) pgs_nil rfl) rfl) h2 h3) hs hw h1) ?_
  unfold mPar at he
  cases g1 : fa env with
  | none => simp only [g1] at he; cases he
  | some q =>
    obtain ⟨s, env1⟩ := q
    simp only [g1] at he
    cases g2 : fb env1 with
    | none => simp only [g2] at he; cases he
    | some q =>
      obtain ⟨t, env2⟩ := q
      simp only [g2] at he
      split at he
      · rename_i hl
        cases he
        refine ha hK σ env _ _ w _ g1 E fun v w1 Fr E1 T1 p1 f1 => ?_
        refine hb hK σ env1 _ _ w1 _ g2 E1 fun u w2 Fr2 E2 T2 p2 f2 => ?_
        refine ⟨by show 2 ≤ sizeLine; decide, fun p hp => ⟨p, [v, u], rfl, .inl (.inl upd_same), rfl, ?_⟩⟩
        obtain ⟨E2', p3⟩ := E2.grow (Fr := fun _ => False) (H' := upd w2.H p (.tup [v, u])) (upd_keep hp) (fun _ z => z.elim)
        have T1' := TR.step E2 (TR.step E1 T1 p2) p3
        have T2'' := TR.step E2 T2 p3
        have dis : ∀ z, Fr z → ¬ Fr2 z := fun z q q' => by
          rcases f2 z q' with ⟨i, r⟩ | r
          · exact T1.off z i q r
          · exact E1.dom z (T1.sub z q) r
        have p12 := (p1.trans p2 E.dom).trans p3 E.dom
        have E3 := E2'.set T1' hl.1
        have T2' : TR Γ ⟨fun a => w2.M a ∨ False, fun j a => if j = i then Fr a else w2.F j a, upd w2.H p (.tup [v, u])⟩ u t Fr2 := ⟨T2''.rep, T2''.sub, fun a l q z => by
          have z' : (if l = i then Fr a else w2.F l a) := z
          split at z'
          · exact dis a z' q
          · exact T2.off a l q z'⟩
        have E4 := E3.set T2' (i := j) (by rw [List.length_set]; exact hl.2)
        exact ⟨v, [u], rfl, u, [], rfl, rfl, k _ ⟨fun a => w2.M a ∨ False, fun l a => if l = j then Fr2 a else if l = i then Fr a else w2.F l a, upd w2.H p (.tup [v, u])⟩ E4 ((p12.set f1).set (f2.back p1)) ((Agree.set hAi).trans (Agree.set hAj))⟩
      · cases he
end
end G

/-! G22: what a text's class offers, told once for all callers -/
namespace G
open PySem L2
section
variable (Γ : Gam) (P : Program) (w : World) (mg : Str → Option Value) (base : Heap)
structure MCa (c : Nat) (m : Str) (np : Nat) (g : Fn Γ) (k : Nat) : Prop where
  ex : ∃ C ns f fd ps, Γ.cls c = some (C, ns) ∧ Cls Γ.K C ∧ Meth Γ.K C m f ∧ FnOk P w Γ.K mg base CX0 k f fd ps (spG Γ np g) ∧ Binds Γ.K fd ps []
structure KCa (c : Nat) (m : Str) (np : Nat) (g : Fn Γ) (ks : List Str) (n1 k : Nat) : Prop where
  ex : ∃ C ns f fd ps, Γ.cls c = some (C, ns) ∧ Cls Γ.K C ∧ Meth Γ.K C m f ∧ FnOk P w Γ.K mg base CX0 k f fd ps (spG Γ np g) ∧ KB Γ.K fd ps ks n1
structure VCa (c : Nat) (x : Str) (g : Fn Γ) (k : Nat) : Prop where
  ex : ∃ C ns f, Γ.cls c = some (C, ns) ∧ Mk Γ.K C f ∧ FnR P w Γ.K mg base CX0 k f (spV Γ 2 g) ∧ mg x = some (.ref C)
structure OCa (c : Nat) (m : Str) (g : Fn Γ) (k : Nat) : Prop where
  ex : ∃ C ns f fd ps, Γ.cls c = some (C, ns) ∧ PySem.W.findIn Γ.K (.ref C) m = some (some (.ref f)) ∧ PySem.W.isFn Γ.K (.ref f) = true ∧ PySem.W.selfFirst Γ.K C = true ∧ PySem.W.notFirst Γ.K C (.type "list") = true ∧ FnOk P w Γ.K mg base CX0 k f fd ps (spG Γ 2 g) ∧ Binds Γ.K fd ps []
structure ICa (c : Nat) (x : Str) : Prop where
  ex : ∃ C ns, Γ.cls c = some (C, ns) ∧ mg x = some (.ref C) ∧ Cls Γ.K C ∧ PySem.W.findIn Γ.K (.ref C) "__class__" = some (some (.builtin "object.__class__")) ∧ PySem.W.specialIn Γ.K (.builtin "object.__class__") "__get__" = some (some (.builtin "getset_descriptor.__get__")) ∧
    PySem.W.takesIn Γ.K (.builtin "object.__class__") = some true ∧ PySem.W.mroIn Γ.K C (.type "object") = some true ∧ PySem.W.kitOne Γ.K (.ref C) (.ref C) = some true ∧ PySem.W.kitOne Γ.K (.type "list") (.ref C) = some false
end
section
variable {Γ : Gam} {X : Cx} {c np k j n1 : Nat} {m x : Str} {g : Fn Γ} {ks : List Str}
theorem MCa.mf (hK : Γ.K = X.K) (h : MCa Γ X.prog X.w X.mg X.base c m np g k) (hr : Room j X.A) (l : k ≤ j) : Mf Γ X c m np g := by
  obtain ⟨C, ns, f, fd, ps, h1, h2, h3, h4, h5⟩ := h
  exact ⟨C, ns, k, f, fd, ps, h1, hK ▸ h2, hK ▸ h3, hK ▸ h4, hr.mono l, hK ▸ h5⟩
theorem KCa.mf (hK : Γ.K = X.K) (h : KCa Γ X.prog X.w X.mg X.base c m np g ks n1 k) (hr : Room j X.A) (l : k ≤ j) : MfK Γ X c m np g ks n1 := by
  obtain ⟨C, ns, f, fd, ps, h1, h2, h3, h4, h5⟩ := h
  exact ⟨C, ns, k, f, fd, ps, h1, hK ▸ h2, hK ▸ h3, hK ▸ h4, hr.mono l, hK ▸ h5⟩
theorem VCa.v (hK : Γ.K = X.K) (h : VCa Γ X.prog X.w X.mg X.base c x g k) (hr : Room j X.A) (l : k + 1 ≤ j) : MkV Γ X c x g := by
  obtain ⟨C, ns, f, h1, h2, h3, h4⟩ := h
  exact ⟨C, ns, k, f, h1, hK ▸ h2, hK ▸ h3, hr.mono l, h4⟩
theorem OCa.ow (hK : Γ.K = X.K) (h : OCa Γ X.prog X.w X.mg X.base c m g k) (hr : Room j X.A) (l : k ≤ j) : Own Γ X c m g := by
  obtain ⟨C, ns, f, fd, ps, h1, h2, h3, h4, h5, h6, h7⟩ := h
  exact ⟨C, ns, k, f, fd, ps, h1, hK ▸ h2, hK ▸ h3, hK ▸ h4, hK ▸ h5, hK ▸ h6, hr.mono l, hK ▸ h7⟩
theorem ICa.is (hK : Γ.K = X.K) (h : ICa Γ X.mg c x) : IsC Γ X c x := by
  obtain ⟨C, ns, h1, h2, h3, h4, h5, h6, h7, h8, h9⟩ := h
  exact ⟨C, ns, h1, h2, hK ▸ h3, hK ▸ h4, hK ▸ h5, hK ▸ h6, hK ▸ h7, hK ▸ h8, hK ▸ h9⟩
end
end G

/-! S0: an object with an order and two dicts of lists of texts, owned or only read -/
namespace S
open PySem L2 G
structure Sd where
  ord : List Str
  giv : List (Str × List Str)
  stm : List (Str × List Str)
inductive Rows (H : Hp) : List (Str × List Str) → List Addr → Prop
  | nil : Rows H [] []
  | cons {x : Str} {xs : List Str} {p : Addr} {g : List (Str × List Str)} {ps : List Addr} : H p = some (.lst (xs.map V.str)) → Rows H g ps → Rows H ((x, xs) :: g) (p :: ps)
def kvs (g : List (Str × List Str)) (ps : List Addr) : List (Key × V) := List.zipWith (fun q p => (Sum.inr q.1, V.ref p)) g ps
structure At (K : PySem.W.Frag) (C : Addr) (M : Addr → Prop) (H : Hp) (o : Sd) (a t d1 d2 dx : Addr) (ps1 ps2 : List Addr) : Prop where
  hA : H a = some (.ins C dx [("order", .ref t), ("given", .ref d1), ("stamped", .ref d2)])
  hT : TupM K M H t (o.ord.map V.str)
  h1 : H d1 = some (.dK (kvs o.giv ps1))
  h2 : H d2 = some (.dK (kvs o.stm ps2))
  r1 : Rows H o.giv ps1
  r2 : Rows H o.stm ps2
  nd : (a :: d1 :: d2 :: (ps1 ++ ps2)).Nodup
theorem Rows.go {H H' : Hp} : ∀ {g : List (Str × List Str)} {ps : List Addr}, Rows H g ps → (∀ p ∈ ps, ∀ u, H p = some u → H' p = some u) → Rows H' g ps
  | _, _, .nil, _ => .nil
  | _, _, .cons h r, k => .cons (k _ List.mem_cons_self _ h) (Rows.go r fun p hp => k p (List.mem_cons_of_mem _ hp))
theorem Rows.live {H : Hp} : ∀ {g : List (Str × List Str)} {ps : List Addr}, Rows H g ps → ∀ p ∈ ps, ∃ vs, H p = some (.lst vs)
  | _, _, .nil, p, hp => nomatch hp
  | _, _, .cons h r, p, hp => by
    rcases List.mem_cons.mp hp with z | z
    · subst z; exact ⟨_, h⟩
    · exact Rows.live r p z
theorem Rows.len {H : Hp} : ∀ {g : List (Str × List Str)} {ps : List Addr}, Rows H g ps → ps.length = g.length
  | _, _, .nil => rfl
  | _, _, .cons h r => by rw [List.length_cons, List.length_cons, Rows.len r]
def own (a d1 d2 : Addr) (ps1 ps2 : List Addr) : List Addr := a :: d1 :: d2 :: (ps1 ++ ps2)
section
variable {K : PySem.W.Frag} {C : Addr} {M M' : Addr → Prop} {H H' : Hp} {o : Sd} {a t d1 d2 dx : Addr} {ps1 ps2 : List Addr}
theorem At.go (h : At K C M H o a t d1 d2 dx ps1 ps2) (g : Go M H M' H') (k : ∀ b ∈ own a d1 d2 ps1 ps2, ∀ u, H b = some u → H' b = some u) : At K C M' H' o a t d1 d2 dx ps1 ps2 where
  hA := k a (by simp [own]) _ h.hA
  hT := h.hT.go g
  h1 := k d1 (by simp [own]) _ h.h1
  h2 := k d2 (by simp [own]) _ h.h2
  r1 := h.r1.go fun p hp => k p (by simp [own, hp])
  r2 := h.r2.go fun p hp => k p (by simp [own, hp])
  nd := h.nd
theorem At.live (h : At K C M H o a t d1 d2 dx ps1 ps2) : ∀ b ∈ own a d1 d2 ps1 ps2, H b ≠ none := fun b hb => by
  unfold own at hb
  rcases List.mem_cons.mp hb with z | z
  · subst z; rw [h.hA]; simp
  rcases List.mem_cons.mp z with z | z
  · subst z; rw [h.h1]; simp
  rcases List.mem_cons.mp z with z | z
  · subst z; rw [h.h2]; simp
  rcases List.mem_append.mp z with z | z
  · obtain ⟨vs, q⟩ := h.r1.live b z; rw [q]; simp
  · obtain ⟨vs, q⟩ := h.r2.live b z; rw [q]; simp
/-- what is owned is no tuple -/
theorem At.notup (h : At K C M H o a t d1 d2 dx ps1 ps2) : ∀ b ∈ own a d1 d2 ps1 ps2, ∀ vs, ¬ Rd H b (.tup vs) := fun b hb vs z => by
  unfold own at hb
  have key : ∀ u, H b = some u → (∀ vs, u ≠ .tup vs) → (∀ o' u', u ≠ .frz o' u') → False := fun u e h1 h2 => by
    rcases z with z | ⟨o', z⟩
    · rw [z] at e; cases e; exact h1 _ rfl
    · rw [z] at e; cases e; exact h2 _ _ rfl
  rcases List.mem_cons.mp hb with y | y
  · subst y; exact key _ h.hA (by intro _ q; cases q) (by intro _ _ q; cases q)
  rcases List.mem_cons.mp y with y | y
  · subst y; exact key _ h.h1 (by intro _ q; cases q) (by intro _ _ q; cases q)
  rcases List.mem_cons.mp y with y | y
  · subst y; exact key _ h.h2 (by intro _ q; cases q) (by intro _ _ q; cases q)
  rcases List.mem_append.mp y with y | y
  · obtain ⟨ws, q⟩ := h.r1.live b y; exact key _ q (by intro _ q; cases q) (by intro _ _ q; cases q)
  · obtain ⟨ws, q⟩ := h.r2.live b y; exact key _ q (by intro _ q; cases q) (by intro _ _ q; cases q)
end
/-- fz: only read -/
def orep (K : PySem.W.Frag) (C : Addr) (M : Addr → Prop) (H : Hp) (v : V) (q : Bool × Sd) (Fr : Addr → Prop) : Prop :=
  ∃ a t d1 d2 dx ps1 ps2, v = .ref a ∧ At K C M H q.2 a t d1 d2 dx ps1 ps2 ∧ ((q.1 = false ∧ ∀ b, Fr b ↔ b ∈ own a d1 d2 ps1 ps2) ∨ (q.1 = true ∧ (∀ b ∈ own a d1 d2 ps1 ps2, ¬ M b) ∧ ∀ b, ¬ Fr b))
theorem omono (K : PySem.W.Frag) (C : Addr) (M : Addr → Prop) (H : Hp) (M' : Addr → Prop) (H' : Hp) (v : V) (o : Bool × Sd) (Fr : Addr → Prop) (h : orep K C M H v o Fr)
    (k : ∀ a u, ¬ M a ∨ Fr a → H a = some u → H' a = some u) (st : ∀ a, ¬ M a → H a ≠ none → ¬ M' a) : orep K C M' H' v o Fr := by
  obtain ⟨a, t, d1, d2, dx, ps1, ps2, rfl, hA, hF⟩ := h
  have g : Go M H M' H' := ⟨fun a u n e => k a u (.inl n) e, st⟩
  refine ⟨a, t, d1, d2, dx, ps1, ps2, rfl, hA.go g fun b hb u e => ?_, ?_⟩
  · rcases hF with ⟨_, z⟩ | ⟨_, z, _⟩
    · exact k b u (.inr ((z b).mpr hb)) e
    · exact k b u (.inl (z b hb)) e
  · rcases hF with z | ⟨z1, z2, z3⟩
    · exact .inl z
    · exact .inr ⟨z1, fun b hb => st b (z2 b hb) (hA.live b hb), z3⟩
abbrev gam (K : PySem.W.Frag) (C : Addr) : Gam where
  K := K
  cls := fun c => match c with | 0 => some (C, ["order", "given", "stamped"]) | _ => none
  Ob := Bool × Sd
  orep := orep K C
  omono := omono K C
section
variable {K : PySem.W.Frag} {C : Addr}
def ob (fz : Bool) (o : Sd) : Sl (gam K C) := .obj (fz, o)
/-- what a method that only reads may hand back -/
def flat : G.D → Bool
  | .non => true
  | .bl _ => true
  | .int _ => true
  | .str _ => true
  | _ => false
def okRes : Sl (gam K C) → Bool
  | .dat (.tup ds) => ds.all flat
  | .dat d => flat d
  | .lst ds => ds.all flat
  | _ => false
theorem flat_dat {M M' : Addr → Prop} {H H' : Hp} {v : V} {d : G.D} (h : Dat (gam K C) M H v d) (f : flat d = true) : Dat (gam K C) M' H' v d := by
  cases h with
  | non => exact .non
  | bl b => exact .bl b
  | int i => exact .int i
  | str x => exact .str x
  | tup _ _ => cases f
  | lst _ _ _ => cases f
  | ins _ _ _ _ _ => cases f
theorem flat_dats {M M' : Addr → Prop} {H H' : Hp} : ∀ {vs : List V} {ds : List G.D}, Dats (gam K C) M H vs ds → ds.all flat = true → Dats (gam K C) M' H' vs ds
  | _, _, .nil, _ => .nil
  | _, _, .cons h r, f => by
    rw [List.all_cons, Bool.and_eq_true] at f
    exact .cons (flat_dat h f.1) (flat_dats r f.2)
/-- the same, of an object that stays the caller's -/
def thaw (g : Fn (gam K C)) : Fn (gam K C) := fun args =>
  match args with
  | .obj (false, o) :: rest => if rest.all (fun s => match s with | .dat d => flat d | _ => false) = true then
      match g (.obj (true, o) :: rest) with
      | some (r, .obj (true, _) :: _) => if okRes r = true then some (r, .obj (false, o) :: rest) else none
      | _ => none
    else none
  | _ => none
end
end S

/-! S1: a method that only reads, called with an object that may be changed -/
namespace S
open PySem L2 G
section
variable {K : PySem.W.Frag} {C : Addr}
theorem flatSl {s : Sl (gam K C)} (h : (match s with | .dat d => flat d | _ => false) = true) : ∃ d, s = .dat d ∧ flat d = true := by
  cases s with
  | dat d => exact ⟨d, rfl, h⟩
  | _ => cases h
theorem thaw_sp {np : Nat} {g : Fn (gam K C)} {vs : List V} {H : Hp} {Q : VK} {E : XK} (h : spG (gam K C) np (thaw g) vs H Q E) : spG (gam K C) np g vs H Q E := by
  obtain ⟨args, r, args', w, hg, hl, rfl, Er, k⟩ := h
  unfold thaw at hg
  split at hg
  · rename_i o rest
    split at hg
    · rename_i hr
      split at hg
      · rename_i r1 o' rest' g1
        split at hg
        · rename_i ok
          cases hg
          have fr : ∀ (n : Nat) (s : Sl (gam K C)), rest[n]? = some s → ∃ d, s = Sl.dat d ∧ flat d = true := fun n s e => flatSl (List.all_eq_true.mp hr s (List.mem_of_getElem? e))
          rcases Er.slot 0 _ rfl with ⟨z, _⟩ | ⟨v0, ev, rv⟩
          · cases z
          obtain ⟨a, t, d1, d2, dx, ps1, ps2, rfl, hA, hF⟩ := rv
          have hF0 : ∀ b, w.F 0 b ↔ b ∈ own a d1 d2 ps1 ps2 := by
            rcases hF with z | z
            · exact z.2
            · cases z.1
          have hrest : ∀ (n : Nat) (s : Sl (gam K C)), rest[n]? = some s → ∃ d v, s = Sl.dat d ∧ flat d = true ∧ (vs.map some)[n + 1]? = some (some v) ∧ Dat (gam K C) w.M w.H v d := fun n s e => by
            obtain ⟨d, rfl, fd⟩ := fr n s e
            rcases Er.slot (n + 1) _ (by rw [List.getElem?_cons_succ]; exact e) with ⟨z, _⟩ | ⟨v, e1, rv⟩
            · cases z
            · exact ⟨d, v, rfl, fd, e1, rv.1⟩
          have go0 : Go w.M w.H (fun b => w.M b ∧ ¬ w.F 0 b) w.H := ⟨fun _ _ _ e => e, fun _ n _ z => n z.1⟩
          have E0 : ER (gam K C) ⟨fun b => w.M b ∧ ¬ w.F 0 b, fun i b => i ≠ 0 ∧ w.F i b, w.H⟩ (vs.map some) (.obj (true, o) :: rest) := by
            refine ⟨Er.len, fun i s e => ?_, fun i b f => ⟨Er.sub i b f.2, fun z => f.1 (Er.dis i 0 b f.2 z)⟩, fun i j b f f' => Er.dis i j b f.2 f'.2, fun b m => Er.dom b m.1, fun i hi b f => Er.out i hi b f.2⟩
            cases i with
            | zero =>
              cases e
              exact .inr ⟨_, ev, a, t, d1, d2, dx, ps1, ps2, rfl, hA.go go0 fun _ _ _ e => e, .inr ⟨rfl, fun b hb z => z.2 ((hF0 b).mpr hb), fun b z => z.1 rfl⟩⟩
            | succ n =>
              rw [List.getElem?_cons_succ] at e
              obtain ⟨d, v, rfl, fd, e1, hd⟩ := hrest n s e
              refine .inr ⟨v, e1, flat_dat hd fd, fun b z => ?_⟩
              rcases Er.slot (n + 1) _ (by rw [List.getElem?_cons_succ]; exact e) with ⟨q, _⟩ | ⟨_, _, q⟩
              · cases q
              · exact q.2 b z.2
          refine ⟨_, _, _, ⟨fun b => w.M b ∧ ¬ w.F 0 b, fun i b => i ≠ 0 ∧ w.F i b, w.H⟩, g1, hl, rfl, E0, fun v w' Fr E' T' p' f' => ?_⟩
          have go1 : Go w.M w.H (fun b => w'.M b ∨ w.F 0 b) w'.H := ⟨fun b u n e => p'.keep b u (fun i z => n (Er.sub i b z.2)) e, fun b n e z => by
            rcases z with z | z
            · rcases p'.src b z with y | y
              · exact n y.1
              · exact e y
            · exact n (Er.sub 0 b z)⟩
          have hA2 : At K C (fun b => w'.M b ∨ w.F 0 b) w'.H o a t d1 d2 dx ps1 ps2 := hA.go go1 fun b hb u e => p'.keep b u (fun i z => z.1 (Er.dis i 0 b z.2 ((hF0 b).mpr hb))) e
          refine k v ⟨fun b => w'.M b ∨ w.F 0 b, fun i b => i = 0 ∧ w.F 0 b, w'.H⟩ Fr ?_ ?_ ⟨fun b u n e => p'.keep b u (fun i z => n i z.2) e, fun b n m => .inl (p'.mu b (fun i z => n i z.2) ⟨m, n 0⟩), fun b m => ?_, fun i b f => .inl ⟨0, f.2⟩, p'.live⟩ fun b f => ?_
          · refine ⟨Er.len, fun i s e => ?_, fun i b f => .inr f.2, fun i j b f f' => f.1.trans f'.1.symm, fun b m => ?_, fun i hi b f => ?_⟩
            · cases i with
              | zero =>
                cases e
                exact .inr ⟨_, ev, a, t, d1, d2, dx, ps1, ps2, rfl, hA2, .inl ⟨rfl, fun b => ⟨fun z => (hF0 b).mp z.2, fun z => ⟨rfl, (hF0 b).mpr z⟩⟩⟩⟩
              | succ n =>
                rw [List.getElem?_cons_succ] at e
                obtain ⟨d, v, rfl, fd, e1, hd⟩ := hrest n s e
                exact .inr ⟨v, e1, flat_dat hd fd, fun b z => by cases z.1⟩
            · rcases m with m | m
              · exact E'.dom b m
              · exact p'.live b (Er.dom b (Er.sub 0 b m))
            · rw [f.1, List.length_cons] at hi
              omega
          · refine ⟨?_, fun b f => .inl (T'.sub b f), fun b i f z => ?_⟩
            · have rep := T'.rep
              cases r with
              | dat d =>
                cases d with
                | tup ds =>
                  obtain ⟨h1, h2⟩ := rep
                  cases h1 with
                  | tup ht hd =>
                    refine ⟨.tup ?_ (flat_dats hd ok), h2⟩
                    rcases ht with ⟨n, hR⟩ | hK
                    · exact .inl ⟨fun z => z.elim n fun q => hA2.notup _ ((hF0 _).mp q) _ hR, hR⟩
                    · exact .inr hK
                | non => exact ⟨flat_dat rep.1 rfl, rep.2⟩
                | bl b => exact ⟨flat_dat rep.1 rfl, rep.2⟩
                | int b => exact ⟨flat_dat rep.1 rfl, rep.2⟩
                | str b => exact ⟨flat_dat rep.1 rfl, rep.2⟩
                | lst _ => cases ok
                | ins _ _ => cases ok
              | lst ds =>
                obtain ⟨p, us, e1, e2, hd, hf⟩ := rep
                exact ⟨p, us, e1, e2, flat_dats hd ok, hf⟩
              | none => cases ok
              | scr _ => cases ok
              | dic _ => cases ok
              | ins _ _ => cases ok
              | obj _ => cases ok
            · rcases f' b f with ⟨j, y⟩ | y
              · exact y.1 (Er.dis j 0 b y.2 z.2)
              · exact Er.dom b (Er.sub 0 b z.2) y
          · rcases m with m | m
            · exact (p'.src b m).imp (·.1) id
            · exact .inl (Er.sub 0 b m)
          · exact (f' b f).imp (fun ⟨j, y⟩ => ⟨j, y.2⟩) id
        · cases hg
      · cases hg
    · cases hg
  · cases hg
end
end S

/-! S2: reading the attributes -/
namespace S
open PySem L2 G
structure Cs (K : PySem.W.Frag) (C : Addr) : Prop where
  cl : Cls K C
  no : NoAttr K C "order"
  ng : NoAttr K C "given"
  ns : NoAttr K C "stamped"
def FB (f : Str) (b : Bool) : Prop := (f = "given" ∧ b = true) ∨ (f = "stamped" ∧ b = false)
def pick (b : Bool) (o : Sd) : List (Str × List Str) := if b then o.giv else o.stm
def get (g : List (Str × List Str)) (x : Str) : Option (List Str) := (g.find? fun q => decide (q.1 = x)).map (·.2)
theorem lkO (a b c : V) : ([("order", a), ("given", b), ("stamped", c)] : List (Str × V)).lookup ("order" : Str) = some a := by
  rw [List.lookup_cons, show (("order" : Str) == "order") = true from by decide +kernel]
theorem lkG (a b c : V) : ([("order", a), ("given", b), ("stamped", c)] : List (Str × V)).lookup ("given" : Str) = some b := by
  rw [List.lookup_cons, show (("given" : Str) == "order") = false from by decide +kernel, List.lookup_cons, show (("given" : Str) == "given") = true from by decide +kernel]
theorem lkS (a b c : V) : ([("order", a), ("given", b), ("stamped", c)] : List (Str × V)).lookup ("stamped" : Str) = some c := by
  rw [List.lookup_cons, show (("stamped" : Str) == "order") = false from by decide +kernel, List.lookup_cons, show (("stamped" : Str) == "given") = false from by decide +kernel, List.lookup_cons, show (("stamped" : Str) == "stamped") = true from by decide +kernel]
section
variable {K : PySem.W.Frag} {C : Addr}
theorem Cs.at (c : Cs K C) {f : Str} {b : Bool} (h : FB f b) : NoAttr K C f := by
  rcases h with ⟨rfl, _⟩ | ⟨rfl, _⟩
  · exact c.ng
  · exact c.ns
theorem At.dict {M : Addr → Prop} {H : Hp} {o : Sd} {a t d1 d2 dx : Addr} {ps1 ps2 : List Addr} {f : Str} {b : Bool} (h : At K C M H o a t d1 d2 dx ps1 ps2) (hf : FB f b) :
    ∃ d ps, ([("order", .ref t), ("given", .ref d1), ("stamped", .ref d2)] : List (Str × V)).lookup f = some (.ref d) ∧ H d = some (.dK (kvs (pick b o) ps)) ∧ Rows H (pick b o) ps ∧ d ∈ own a d1 d2 ps1 ps2 ∧ ∀ p ∈ ps, p ∈ own a d1 d2 ps1 ps2 := by
  rcases hf with ⟨rfl, rfl⟩ | ⟨rfl, rfl⟩
  · exact ⟨d1, ps1, lkG _ _ _, h.h1, h.r1, by simp [own], fun p hp => by simp [own, hp]⟩
  · exact ⟨d2, ps2, lkS _ _ _, h.h2, h.r2, by simp [own], fun p hp => by simp [own, hp]⟩
theorem Rows.get {H : Hp} {x : Str} : ∀ {g : List (Str × List Str)} {ps : List Addr}, Rows H g ps → (get g x = none ∧ valV (kvs g ps) (.inr x) = none) ∨ ∃ xs p, get g x = some xs ∧ valV (kvs g ps) (.inr x) = some (.ref p) ∧ p ∈ ps ∧ H p = some (.lst (xs.map V.str))
  | _, _, .nil => .inl ⟨rfl, rfl⟩
  | _, _, .cons (x := y) (xs := ys) (p := q) (g := g) (ps := ps) h r => by
    unfold S.get valV kvs
    rw [List.zipWith_cons_cons, List.find?_cons, List.find?_cons]
    by_cases e : y = x
    · subst e
      simp only [decide_true]
      exact .inr ⟨ys, q, rfl, rfl, List.mem_cons_self, h⟩
    · have e2 : ¬ ((Sum.inr y : Key) = .inr x) := fun z => e (Sum.inr.inj z)
      simp only [e, decide_false, e2]
      rcases Rows.get r with z | ⟨xs, p, z1, z2, z3, z4⟩
      · exact .inl z
      · exact .inr ⟨xs, p, z1, z2, List.mem_cons_of_mem _ z3, z4⟩
theorem keysV {g : List (Str × List Str)} : ∀ {ps : List Addr}, ps.length = g.length → (kvs g ps).map (fun q => kV q.1) = (g.map (·.1)).map V.str := by
  induction g with
  | nil => intro ps h; cases ps with | nil => rfl | cons _ _ => cases h
  | cons q g ih =>
    intro ps h
    cases ps with
    | nil => cases h
    | cons p ps =>
      have := ih (ps := ps) (by simpa using h)
      unfold kvs at this ⊢
      rw [List.zipWith_cons_cons, List.map_cons, this]
      rfl
def mOrd (i : Nat) : Ev (gam K C) := fun env => match env[i]? with | some (.obj (_, o)) => some (.dat (.tup (o.ord.map .str)), env) | _ => none
/-- self.given.get(sender, []) -/
def mRow (b : Bool) (i j : Nat) : Ev (gam K C) := fun env => match env[i]?, env[j]? with | some (.obj (true, o)), some (.dat (.str x)) => some (.dat (.lst (((get (pick b o) x).getD []).map .str)), env) | _, _ => none
/-- list(self.given) -/
def mKeys (b : Bool) (i : Nat) : Ev (gam K C) := fun env => match env[i]? with | some (.obj (_, o)) => some (.lst ((pick b o).map fun q => .str q.1), env) | _ => none
/-- sender in self.given -/
def mInD (b : Bool) (i j : Nat) : Ev (gam K C) := fun env => match env[i]?, env[j]? with | some (.obj (_, o)), some (.dat (.str x)) => some (.dat (.bl (get (pick b o) x).isSome), env) | _, _ => none
variable {X : Cx} {pos npos : Pos} {x y f : Str} {b : Bool}
theorem sd_ord (i : Nat) (cs : Cs K C) (hN : X.N[i]? = some x := by rfl) (hv : Vis X.env.scope x := by first | exact Or.inl rfl | exact Or.inr (Or.inl rfl) | exact Or.inr (Or.inr rfl)) (hd : (x == ("__debug__" : Str)) = false := by decide) (hcd : (x == ("__classdict__" : Str)) = false := by decide)
    (hbase : attributeBase (.Name x npos) "order" X.env (eval (.Name x npos) X.env) = eval (.Name x npos) X.env := by rfl) : SdE (gam K C) X (.Attribute (.Name x npos) "order" pos) (mOrd i) := by
  intro hK σ env r env' w Q he E k
  unfold mOrd at he
  split at he
  · rename_i fz o g
    cases he
    obtain ⟨v, ev, a, t, d1, d2, dx, ps1, ps2, rfl, hA, _⟩ := E.at (i := i) (s := .obj (fz, o)) (by rw [g]; rfl)
    have hk : K = X.K := hK.k
    refine wE.of (pe_fld (pe_var hN hv hd hcd) hbase) ⟨_, ev, a, C, dx, _, .ref t, rfl, hA.hA, hk ▸ cs.cl, hk ▸ cs.no, lkO _ _ _, k (.ref t) w (fun _ => False) E ⟨⟨.tup hA.hT (strs_dats _), fun _ z => z⟩, fun _ z => z.elim, fun _ _ z => z.elim⟩ (Step.refl w) fun _ z => z.elim⟩
  · cases he
/-- the dict of an attribute -/
theorem pe_at (i : Nat) (cs : Cs K C) (hf : FB f b) {w : Wd} {σ : St} {env : Env (gam K C)} {fz : Bool} {o : Sd} {Q : VK} (hK : Gd (gam K C) X) (E : ER (gam K C) w σ env) (g : env[i]? = some (.obj (fz, o))) (hN : X.N[i]? = some x) (hv : Vis X.env.scope x) (hd : (x == ("__debug__" : Str)) = false) (hcd : (x == ("__classdict__" : Str)) = false)
    (hbase : attributeBase (.Name x npos) f X.env (eval (.Name x npos) X.env) = eval (.Name x npos) X.env) (k : ∀ d ps, w.H d = some (.dK (kvs (pick b o) ps)) → Rows w.H (pick b o) ps → (fz = true → ∀ p ∈ ps, ¬ w.M p) → Q (.ref d) w.H) : wE X (.Attribute (.Name x npos) f pos) σ w.H Q := by
  obtain ⟨v, ev, a, t, d1, d2, dx, ps1, ps2, rfl, hA, hF⟩ := E.at (i := i) (s := .obj (fz, o)) (by rw [g]; rfl)
  obtain ⟨d, ps, q1, q2, q3, q4, q5⟩ := hA.dict hf
  have hk : K = X.K := hK.k
  refine wE.of (pe_fld (pe_var hN hv hd hcd) hbase) ⟨_, ev, a, C, dx, _, .ref d, rfl, hA.hA, hk ▸ cs.cl, hk ▸ cs.at hf, q1, k d ps q2 q3 fun hz p hp => ?_⟩
  rcases hF with ⟨z, _⟩ | ⟨_, z, _⟩
  · rw [hz] at z; cases z
  · exact z p (q5 p hp)
theorem sd_row (i j : Nat) {apos cpos npos2 lpos : Pos} (cs : Cs K C) (hf : FB f b) (m : M2 X (.Attribute (.Name x npos) f pos) "get" apos (.Name y npos2) (.List [] lpos) cpos)
    (hN : X.N[i]? = some x := by rfl) (hv : Vis X.env.scope x := by first | exact Or.inl rfl | exact Or.inr (Or.inl rfl) | exact Or.inr (Or.inr rfl)) (hd : (x == ("__debug__" : Str)) = false := by decide) (hcd : (x == ("__classdict__" : Str)) = false := by decide)
    (hN2 : X.N[j]? = some y := by rfl) (hv2 : Vis X.env.scope y := by first | exact Or.inl rfl | exact Or.inr (Or.inl rfl) | exact Or.inr (Or.inr rfl)) (hd2 : (y == ("__debug__" : Str)) = false := by decide) (hcd2 : (y == ("__classdict__" : Str)) = false := by decide)
    (hbase : attributeBase (.Name x npos) f X.env (eval (.Name x npos) X.env) = eval (.Name x npos) X.env := by rfl) : SdE (gam K C) X (.Call (.Attribute (.Attribute (.Name x npos) f pos) "get" apos) [.Name y npos2, .List [] lpos] [] cpos) (mRow b i j) := by
  intro hK σ env r env' w Q he E k
  unfold mRow at he
  split at he
  · rename_i o z g1 g2
    cases he
    obtain ⟨v2, ev2, rv2, _⟩ := E.at (i := j) (s := .dat (.str z)) (by rw [g2]; rfl)
    cases rv2
    refine wE.of (pe_dget2 hK.hu pe_wE (pe_var hN2 hv2 hd2 hcd2) (pe_lst pa_nil) m) ?_
    refine pe_at i cs hf hK E g1 hN hv hd hcd hbase fun d ps hD hR hM => ?_
    refine ⟨d, rfl, .inl ⟨_, .inl hD⟩, _, ev2, by decide, fun p hp => ?_⟩
    obtain ⟨E1, p1⟩ := E.grow (Fr := fun _ => False) (H' := upd w.H p (.lst [])) (upd_keep hp) fun _ z => z.elim
    have gH : Go w.M w.H (fun a => w.M a ∨ False) (upd w.H p (.lst [])) := go_new hp _ fun a z => .inl (z.elim id False.elim)
    refine ⟨valV (kvs (pick b o) ps) (.inr z), .inl ⟨_, .inr z, .inl (upd_keep hp _ _ hD), rfl, rfl⟩, ?_⟩
    rcases Rows.get (x := z) hR with ⟨z1, z2⟩ | ⟨xs, q, z1, z2, z3, z4⟩
    · rw [z2]
      refine k (.ref p) _ (fun _ => False) E1 ⟨⟨?_, fun _ z => z⟩, fun _ z => z.elim, fun _ _ z => z.elim⟩ p1 fun _ z => z.elim
      rw [z1]
      exact .lst (fun y => y.elim (fun q => E.dom p q hp) id) upd_same .nil
    · rw [z2]
      refine k (.ref q) _ (fun _ => False) E1 ⟨⟨?_, fun _ z => z⟩, fun _ z => z.elim, fun _ _ z => z.elim⟩ p1 fun _ z => z.elim
      rw [z1]
      exact .lst (fun y => y.elim (hM rfl q z3) id) (upd_keep hp _ _ z4) (strs_dats _)
  · cases he
theorem sd_keys (i : Nat) {p cpos : Pos} (cs : Cs K C) (hf : FB f b) (hg : Gl X "list") (hm : X.mg "list" = none) (hN : X.N[i]? = some x := by rfl) (hv : Vis X.env.scope x := by first | exact Or.inl rfl | exact Or.inr (Or.inl rfl) | exact Or.inr (Or.inr rfl)) (hd : (x == ("__debug__" : Str)) = false := by decide) (hcd : (x == ("__classdict__" : Str)) = false := by decide)
    (hbase : attributeBase (.Name x npos) f X.env (eval (.Name x npos) X.env) = eval (.Name x npos) X.env := by rfl) : SdE (gam K C) X (.Call (.Name "list" p) [.Attribute (.Name x npos) f pos] [] cpos) (mKeys b i) := by
  intro hK σ env r env' w Q he E k
  unfold mKeys at he
  split at he
  · rename_i fz o g
    cases he
    refine wE.of (pe_callTy (x := "list") (call_list_dK hK.calm) hg hm (by decide +kernel) (pa_wL (es := [.Attribute (.Name x npos) f pos]) fun e h => by rw [List.mem_singleton.mp h]; exact fun _ => rfl) (by decide) (by decide) rfl rfl) ?_
    refine pe_at i cs hf hK E g hN hv hd hcd hbase fun d ps hD hR hM => ?_
    refine ⟨d, _, rfl, hD, fun q hq => ?_⟩
    have e := keysV (g := pick b o) hR.len
    rw [e]
    refine res_of E k _ _ _ (upd_keep hq) (fun a z => ?_) ⟨q, _, rfl, upd_same, ?_, fun a => Iff.rfl⟩
    · subst z; exact ⟨hq, by rw [upd_same]; simp⟩
    · have := strs_dats (Γ := gam K C) (M := fun a => w.M a ∨ a = q) (H := upd w.H q (.lst (((pick b o).map (·.1)).map V.str))) ((pick b o).map (·.1))
      rw [List.map_map] at this
      rw [List.map_map]
      rw [List.map_map] at this
      exact this
  · cases he
theorem sd_inD (i j : Nat) {npos2 cpos : Pos} (cs : Cs K C) (hf : FB f b) (hN : X.N[i]? = some x := by rfl) (hv : Vis X.env.scope x := by first | exact Or.inl rfl | exact Or.inr (Or.inl rfl) | exact Or.inr (Or.inr rfl)) (hd : (x == ("__debug__" : Str)) = false := by decide) (hcd : (x == ("__classdict__" : Str)) = false := by decide)
    (hN2 : X.N[j]? = some y := by rfl) (hv2 : Vis X.env.scope y := by first | exact Or.inl rfl | exact Or.inr (Or.inl rfl) | exact Or.inr (Or.inr rfl)) (hd2 : (y == ("__debug__" : Str)) = false := by decide) (hcd2 : (y == ("__classdict__" : Str)) = false := by decide)
    (hm : behindInMarks .In (.Attribute (.Name x npos) f pos) = false := by rfl) (hbase : attributeBase (.Name x npos) f X.env (eval (.Name x npos) X.env) = eval (.Name x npos) X.env := by rfl) : SdE (gam K C) X (.Compare (.Name y npos2) [.In] [.Attribute (.Name x npos) f pos] cpos) (mInD b i j) := by
  intro hK σ env r env' w Q he E k
  unfold mInD at he
  split at he
  · rename_i fz o z g1 g2
    cases he
    obtain ⟨v2, ev2, rv2, _⟩ := E.at (i := j) (s := .dat (.str z)) (by rw [g2]; rfl)
    cases rv2
    refine wE.of (pe_cmp (pc_din hK.hu (pe_var hN2 hv2 hd2 hcd2) pe_wE) hm) ⟨_, ev2, ?_⟩
    refine pe_at i cs hf hK E g1 hN hv hd hcd hbase fun d ps hD hR hM => ?_
    refine ⟨d, valV (kvs (pick b o) ps) (.inr z), rfl, .inl ⟨_, .inr z, .inl hD, rfl, rfl⟩, ?_⟩
    have e : (valV (kvs (pick b o) ps) (.inr z)).isSome = (get (pick b o) z).isSome := by
      rcases Rows.get (x := z) hR with ⟨z1, z2⟩ | ⟨xs, q, z1, z2, z3, z4⟩
      · rw [z1, z2]; rfl
      · rw [z1, z2]; rfl
    rw [e]
    exact k _ w (fun _ => False) E (TR.dat (.bl _)) (Step.refl w) fun _ z => z.elim
  · cases he
end
end S

/-! S3: calls of methods, in, len -/
namespace S
open PySem L2 G
section
variable {K : PySem.W.Frag} {C : Addr} {X : Cx} {A : List Nat} {σ : St} {env env' : Env (gam K C)} {w : Wd} {e a b : Expr} {es : List Expr} {pos apos npos npos2 : Pos} {np : Nat} {g : Fn (gam K C)} {as : List (AE (gam K C))} {m x y : Str}
def nof (m : Str) : Bool := !(m == "order") && !(m == "given") && !(m == "stamped")
theorem nof_look (h : nof m = true) (a b c : V) : ([("order", a), ("given", b), ("stamped", c)] : List (Str × V)).lookup m = none := by
  unfold nof at h
  rw [Bool.and_eq_true, Bool.and_eq_true] at h
  obtain ⟨⟨h1, h2⟩, h3⟩ := h
  have h1' : (m == ("order" : Str)) = false := by cases q : (m == ("order" : Str)) with | false => rfl | true => rw [q] at h1; cases h1
  have h2' : (m == ("given" : Str)) = false := by cases q : (m == ("given" : Str)) with | false => rfl | true => rw [q] at h2; cases h2
  have h3' : (m == ("stamped" : Str)) = false := by cases q : (m == ("stamped" : Str)) with | false => rfl | true => rw [q] at h3; cases h3
  rw [List.lookup_cons, h1', List.lookup_cons, h2', List.lookup_cons, h3']
  rfl
def mMethO (np : Nat) (g : Fn (gam K C)) (i : Nat) (as : List (AE (gam K C))) (ds : List G.D) : Ev (gam K C) := fun env =>
  match env[i]? with
  | some (.obj _) => match evAs as env with
    | none => none
    | some (xs, env1) => mGo np g (.brw i :: (xs ++ ds.map fun d => .val (.dat d))) env1
  | _ => none
/-- written values behind -/
inductive Cst : List V → List G.D → Prop
  | nil : Cst [] []
  | bl {b : Bool} {vs : List V} {ds : List G.D} : Cst vs ds → Cst (.bl b :: vs) (.bl b :: ds)
theorem Cst.ars {w : Wd} {σ : St} : ∀ {vs : List V} {ds : List G.D}, Cst vs ds → ARs (gam K C) w σ vs (ds.map fun d => .val (.dat d)) (ds.map fun _ => fun _ => False)
  | _, _, .nil => .nil
  | _, _, .bl h => .cons (TR.dat (.bl _)) (fun _ _ _ z => z.elim) h.ars
theorem ars_app {w : Wd} {σ : St} {vs2 : List V} {xs2 : List (Ag (gam K C))} {F2 : List (Addr → Prop)} (h2 : ARs (gam K C) w σ vs2 xs2 F2) (hF : ∀ G ∈ F2, ∀ a, ¬ G a) : ∀ {vs : List V} {xs : List (Ag (gam K C))} {F1 : List (Addr → Prop)}, ARs (gam K C) w σ vs xs F1 → ARs (gam K C) w σ (vs ++ vs2) (xs ++ xs2) (F1 ++ F2)
  | _, _, _, .nil => h2
  | _, _, _, .cons h d r => .cons h (fun G hG z gz => by
      rcases List.mem_append.mp hG with q | q
      · exact fun y => d G q z gz y
      · exact fun y => hF G q z y) (ars_app h2 hF r)
theorem methO_run {i : Nat} {r : Sl (gam K C)} {Q : VK} {E0 : XK} {dvs : List V} {ds : List G.D} (hc : Cst dvs ds) (hm : nof m = true) (hK : Gd (gam K C) X) (ha : SdL (gam K C) X es as) (he : mMethO np g i as ds env = some (r, env')) (E : ER (gam K C) w σ env)
    (k : ∀ v w' Fr, ER (gam K C) w' σ env' → TR (gam K C) w' v r Fr → Step w w' → Fresh w Fr → Q v w'.H) :
    ∃ a dx fs, σ[i]? = some (some (.ref a)) ∧ w.H a = some (.ins C dx fs) ∧ fs.lookup m = none ∧ wL X es σ w.H fun vs H2 => spG (gam K C) np g (.ref a :: (vs ++ dvs)) H2 Q E0 := by
  unfold mMethO at he
  split at he
  · rename_i o g0
    cases g1 : evAs as env with
    | none => simp only [g1] at he; cases he
    | some q =>
      obtain ⟨xs, env1⟩ := q
      simp only [g1] at he
      obtain ⟨u, ev, a, t, d1, d2, dx, ps1, ps2, rfl, hA, hF⟩ := E.at (i := i) (s := .obj o) (by rw [g0]; rfl)
      refine ⟨a, dx, _, ev, hA.hA, nof_look hm _ _ _, ?_⟩
      refine sdl_run hK ha g1 E fun ws w1 Frs E1 A1 p1 f1 => go_run (Frs := (fun _ => False) :: (Frs ++ ds.map fun _ => fun _ => False)) E p1 E1 (.cons (show AR (gam K C) w1 σ (.ref a) (.brw i) (fun _ => False) from ⟨ev, fun _ z => z⟩) (fun _ _ _ z => z.elim) (ars_app hc.ars (fun G hG b z => ?_) A1)) (fun G hG => ?_) he k
      · obtain ⟨_, _, rfl⟩ := List.mem_map.mp hG; exact z
      · rcases List.mem_cons.mp hG with z | z
        · subst z; exact fun _ q => q.elim
        · rcases List.mem_append.mp z with z | z
          · exact f1 G z
          · obtain ⟨_, _, rfl⟩ := List.mem_map.mp z; exact fun _ q => q.elim
  · cases he
structure MfO (K : PySem.W.Frag) (C : Addr) (X : Cx) (m : Str) (np : Nat) (g : Fn (gam K C)) (dvs : List V) : Prop where
  ex : ∃ k f fd ps ds, Cls X.K C ∧ Meth X.K C m f ∧ FnOk X.prog X.w X.K X.mg X.base CX0 k f fd ps (spG (gam K C) np g) ∧ Room k X.A ∧ Binds X.K fd ps ds ∧ Vals dvs ds
theorem sd_methO (i : Nat) {pl : Sem Bool} {dvs : List V} {ds : List G.D} (hc : Cst dvs ds) (h : MfO K C X m np g dvs) (hm : nof m = true) (hN : X.N[i]? = some x) (hv : Vis X.env.scope x) (ha : SdL (gam K C) X (e :: es) as) (hd : (x == ("__debug__" : Str)) = false := by decide) (hcd : (x == ("__classdict__" : Str)) = false := by decide)
    (hpl : (backTo pos (starEach es X.env)).any (·.1) = false := by rfl)
    (ht : eval (.Call (.Attribute (.Name x npos) m apos) (e :: es) [] pos) X.env = (do
      let ov ← eval (.Name x npos) X.env
      standAt apos.atName
      let (f, first) ← holding [ov] (getMethod ov m pl)
      callWith pos f first (backTo pos (starEach (e :: es) X.env)) (backToKw pos (keywordEach [] X.env))) := by rfl) : SdE (gam K C) X (.Call (.Attribute (.Name x npos) m apos) (e :: es) [] pos) (mMethO np g i as ds) := by
  obtain ⟨k0, f, fd, ps, dsv, h2, h3, h4, h5, h6, h7⟩ := h
  intro hK σ env r env' w Q he E k
  refine wE.of (pe_meth (E := E0) (pe_var hN hv hd hcd) h2 h3 h4 h5 h6 h7 pass0 (pa_wL ha.ns) (ha.ns e List.mem_cons_self es) hpl ht) ?_
  obtain ⟨a, dx, fs, q1, q2, q3, q4⟩ := methO_run (E0 := E0) hc hm hK ha he E k
  exact ⟨_, q1, a, dx, fs, rfl, q2, q3, q4⟩
theorem sd_meth0O (i : Nat) {pl : Sem Bool} (h : MfO K C X m np g []) (hm : nof m = true) (hN : X.N[i]? = some x) (hv : Vis X.env.scope x) (hd : (x == ("__debug__" : Str)) = false := by decide) (hcd : (x == ("__classdict__" : Str)) = false := by decide)
    (ht : eval (.Call (.Attribute (.Name x npos) m apos) [] [] pos) X.env = (do
      let ov ← eval (.Name x npos) X.env
      standAt apos.atName
      let (f, first) ← holding [ov] (getMethod ov m pl)
      callWith pos f first (backTo pos (starEach [] X.env)) (backToKw pos (keywordEach [] X.env))) := by rfl) : SdE (gam K C) X (.Call (.Attribute (.Name x npos) m apos) [] [] pos) (mMethO np g i [] []) := by
  obtain ⟨k0, f, fd, ps, dsv, h2, h3, h4, h5, h6, h7⟩ := h
  intro hK σ env r env' w Q he E k
  refine wE.of (pe_meth0 (E := E0) (pe_var hN hv hd hcd) h2 h3 h4 h5 h6 h7 pass0 ht) ?_
  obtain ⟨a, dx, fs, q1, q2, q3, q4⟩ := methO_run (E0 := E0) .nil hm hK .nil he E k
  exact ⟨_, q1, a, dx, fs, rfl, q2, q3, q4⟩
structure MfKO (K : PySem.W.Frag) (C : Addr) (X : Cx) (m : Str) (np : Nat) (g : Fn (gam K C)) (ks : List Str) (n1 : Nat) : Prop where
  ex : ∃ k f fd ps, Cls X.K C ∧ Meth X.K C m f ∧ FnOk X.prog X.w X.K X.mg X.base CX0 k f fd ps (spG (gam K C) np g) ∧ Room k X.A ∧ KB X.K fd ps ks n1
theorem sd_methKO (i : Nat) {pl : Sem Bool} {ks : List Str} {n1 : Nat} {kws : List Keyword} (h : MfKO K C X m np g ks n1) (hm : nof m = true) (hN : X.N[i]? = some x) (hv : Vis X.env.scope x) (ha : SdL (gam K C) X (e :: es ++ kws.map (·.value)) as) (hl1 : (e :: es).length + 1 = n1) (hl2 : kws.length = ks.length)
    (hd : (x == ("__debug__" : Str)) = false := by decide) (hcd : (x == ("__classdict__" : Str)) = false := by decide)
    (hall : (backToKw pos (keywordEach kws X.env)).all (·.1.isSome) = true := by rfl) (hks : (backToKw pos (keywordEach kws X.env)).filterMap (·.1) = ks := by rfl)
    (hpl : ((backTo pos (starEach (e :: es) X.env)).any (·.1) || (backToKw pos (keywordEach kws X.env)).any (·.1.isNone)) = false := by rfl)
    (ht : eval (.Call (.Attribute (.Name x npos) m apos) (e :: es) kws pos) X.env = (do
      let ov ← eval (.Name x npos) X.env
      standAt apos.atName
      let (f, first) ← holding [ov] (getMethod ov m pl)
      callWith pos f first (backTo pos (starEach (e :: es) X.env)) (backToKw pos (keywordEach kws X.env))) := by rfl) : SdE (gam K C) X (.Call (.Attribute (.Name x npos) m apos) (e :: es) kws pos) (mMethO np g i as []) := by
  obtain ⟨k0, f, fd, ps, h2, h3, h4, h5, h6⟩ := h
  intro hK σ env r env' w Q he E k
  have hns := ha.ns
  refine wE.of (pe_methK (E := E0) (pe_var hN hv hd hcd) h2 h3 h4 h5 h6 pass0 (pa_wL fun y hy => hns y (List.mem_append_left _ hy)) pk_wL hall hks (hns e (by simp) es) hpl ht) ?_
  obtain ⟨a, dx, fs, q1, q2, q3, q4⟩ := methO_run (E0 := E0) .nil hm hK ha he E k
  simp only [List.append_nil] at q4
  refine ⟨_, q1, a, dx, fs, rfl, q2, q3, ?_⟩
  refine wL_imp (wL_len (wL_app (es := e :: es) q4)) fun vs H1 ⟨z1, z2⟩ => ?_
  refine wL_imp (wL_len z2) fun zs H2 ⟨z3, z4⟩ => ⟨by rw [z1]; exact hl1, by rw [z3, List.length_map]; exact hl2, z4⟩
/-! ### in, len -/
structure SfO (K : PySem.W.Frag) (C : Addr) (X : Cx) (m : Str) (np : Nat) (g : Fn (gam K C)) : Prop where
  ex : ∃ k f fd ps, PySem.W.findIn X.K (.ref C) m = some (some (.ref f)) ∧ PySem.W.isFn X.K (.ref f) = true ∧ FnOk X.prog X.w X.K X.mg X.base CX0 k f fd ps (spG (gam K C) np g) ∧ Room (k + 1) X.A ∧ Binds X.K fd ps []
def rInO (K : PySem.W.Frag) (C : Addr) (g : Fn (gam K C)) : R2 := fun x y H Q => ∃ ad dx fs, y = .ref ad ∧ H ad = some (.ins C dx fs) ∧ spG (gam K C) 2 g [y, x] H (fun z H' => ∃ c, z = .bl c ∧ Q (.bl c) H') E0
theorem op_inO (h : SfO K C X "__contains__" 2 g) : OpR X (compareOp .In) (rInO K C g) := by
  obtain ⟨k, f, fd, ps, h2, h3, h4, h5, h6⟩ := h
  intro pins s σ H x y v u Q I rx ry h
  obtain ⟨ad, dx, fs, rfl, hA, q⟩ := h
  cases (show u = Value.ref ad from ry)
  obtain ⟨mA, J, _⟩ := ins_get I.hok hA
  obtain ⟨od, J, _⟩ := J.look
  obtain ⟨mm, hF⟩ := I.fr
  have hr : Room k X.A := h5.mono (Nat.le_succ k)
  have q' : spG (gam K C) 2 g ([.ref ad, x] ++ []) H (fun z H' => ∃ c, z = .bl c ∧ Q (.bl c) H') E0 := q
  refine PySem.W.in_K hF I.ok.mod.kin J h2 h3 (wpAny_mono (run_fn (us := [.ref ad, v]) (vs := [.ref ad, x]) h4 hr h6 .nil pass0 I (.cons rfl (.cons rx .nil)) q') (fun z s' hz => ?_) fun _ _ x => x)
  obtain ⟨z', H', I', rz, c, ec, qz⟩ := hz
  subst ec
  cases (show z = Value.bool c from rz)
  exact wpAny_truthy_bool ⟨.bl c, H', I', rfl, qz⟩
def mInO (g : Fn (gam K C)) (fa : AE (gam K C)) (i : Nat) : Ev (gam K C) := fun env =>
  match evA fa env with
  | none => none
  | some (x, env1) => match env1[i]? with
    | some (.obj _) => match mGo 2 g [.brw i, x] env1 with
      | some (.dat (.bl c), env2) => some (.dat (.bl c), env2)
      | _ => none
    | _ => none
theorem sd_inO {fa : AE (gam K C)} (i : Nat) (h : SfO K C X "__contains__" 2 g) (ha : SdA (gam K C) X a fa) (hN : X.N[i]? = some x) (hv : Vis X.env.scope x) (hd : (x == ("__debug__" : Str)) = false := by decide) (hcd : (x == ("__classdict__" : Str)) = false := by decide) :
    SdE (gam K C) X (.Compare a [.In] [.Name x npos] pos) (mInO g fa i) := by
  intro hK σ env r env' w Q he E k
  refine wE.of (pe_cmpR (op_inO h) pe_wE (pe_var hN hv hd hcd) rfl) ?_
  unfold mInO at he
  cases g1 : evA fa env with
  | none => simp only [g1] at he; cases he
  | some q =>
    obtain ⟨y, env1⟩ := q
    simp only [g1] at he
    split at he
    · rename_i o g2
      split at he
      · rename_i c env2 g3
        cases he
        refine sda_run ha hK g1 E fun v w1 Fr E1 A1 p1 f1 => ?_
        obtain ⟨u, ev, ad, t, d1, d2, dx, ps1, ps2, rfl, hA, hF⟩ := E1.at (i := i) (s := .obj o) (by rw [g2]; rfl)
        refine ⟨_, ev, ad, dx, _, rfl, hA.hA, ?_⟩
        exact go_run (Frs := [(fun _ => False), Fr]) E p1 E1 (.cons (show AR (gam K C) w1 σ (.ref ad) (.brw i) (fun _ => False) from ⟨ev, fun _ z => z⟩) (fun _ _ _ z => z.elim) (.cons A1 (fun _ hG => nomatch hG) .nil)) (fun G hG => by
          rcases List.mem_cons.mp hG with z | z
          · subst z; exact fun _ q => q.elim
          · rw [List.mem_singleton.mp z]; exact f1) g3 fun v2 w2 F2 E2 T2 p2 f2 => by
            cases T2.bl
            exact ⟨c, rfl, k _ w2 F2 E2 T2 p2 f2⟩
      · cases he
    · cases he
def rLenO (K : PySem.W.Frag) (C : Addr) (g : Fn (gam K C)) : List V → Hp → VK → Prop := fun xs H Q => ∃ ad dx fs, xs = [.ref ad] ∧ H ad = some (.ins C dx fs) ∧ spG (gam K C) 1 g xs H (fun z H' => ∃ i : Int, z = .int i ∧ 0 ≤ i ∧ i < 2 ^ 63 ∧ Q (.int i) H') E0
theorem call_lenO (h : SfO K C X "__len__" 1 g) : CallR X (.builtin "len") (rLenO K C g) := by
  obtain ⟨k, f, fd, ps, h2, h3, h4, h5, h6⟩ := h
  intro pins s σ H xs us Q I r h
  obtain ⟨ad, dx, fs, rfl, hA, q⟩ := h
  obtain ⟨u, rfl, ru⟩ := r.one
  cases (show u = Value.ref ad from ru)
  obtain ⟨mA, J, _⟩ := ins_get I.hok hA
  obtain ⟨od, J, _⟩ := J.look
  obtain ⟨mm, hF⟩ := I.fr
  have r2 : Vals [.ref ad] [.ref ad] := .cons rfl .nil
  have hl : ([Value.ref ad] ++ []).length = ps.length := by rw [List.append_nil, ← r2.length]; exact h4.len _ _ _ _ q
  refine PySem.W.len_K hF I.ok.mod.kin J h2 h3 (wpAny_call (codeAny_mono (h4.run X.A.in1 X.stack s H ⟨[.ref ad], []⟩ [.ref ad] [.ref ad] _ E0 h5.in1 I.env0.in1 (by simpa using h6 s [.ref ad] I.kIn hl) r2 q) fun r s' hq => ?_))
  cases r with
  | error e => exact pass0 pins σ H s e s' I hq
  | ok fl =>
    cases fl with
    | ret u =>
      obtain ⟨z', H', I', rz, i, ei, z1, z2, qz⟩ := I.after hq
      subst ei
      obtain ⟨t, e⟩ := (show ∃ t, u = Value.int i t from rz)
      cases e
      exact ⟨⟨z1, z2⟩, .int i, H', I'.tok _, ⟨_, rfl⟩, qz⟩
    | next => exact hq.elim
    | brk => exact hq.elim
    | cont => exact hq.elim
def mLenO (g : Fn (gam K C)) (i : Nat) : Ev (gam K C) := fun env =>
  match env[i]? with
  | some (.obj _) => match mGo 1 g [.brw i] env with
    | some (.dat (.int n), env2) => if 0 ≤ n ∧ n < 2 ^ 63 then some (.dat (.int n), env2) else none
    | _ => none
  | _ => none
theorem sd_lenO {p : Pos} (i : Nat) (h : SfO K C X "__len__" 1 g) (hg : Gl X "len") (hm : X.mg "len" = none) (hN : X.N[i]? = some x) (hv : Vis X.env.scope x) (hd : (x == ("__debug__" : Str)) = false := by decide) (hcd : (x == ("__classdict__" : Str)) = false := by decide) :
    SdE (gam K C) X (.Call (.Name "len" p) [.Name x npos] [] pos) (mLenO g i) := by
  intro hK σ env r env' w Q he E k
  refine wE.of (pe_callB (x := "len") (call_lenO h) hg hm (by decide +kernel) (pa_wL (es := [.Name x npos]) fun e h => by rw [List.mem_singleton.mp h]; exact fun _ => rfl) (by decide) rfl rfl) ?_
  unfold mLenO at he
  split at he
  · rename_i o g2
    split at he
    · rename_i n env2 g3
      split at he
      · rename_i hn
        cases he
        obtain ⟨u, ev, ad, t, d1, d2, dx, ps1, ps2, rfl, hA, hF⟩ := E.at (i := i) (s := .obj o) (by rw [g2]; rfl)
        refine wE.of (pe_var hN hv hd hcd) ⟨_, ev, ad, dx, _, rfl, hA.hA, ?_⟩
        exact go_run (Frs := [fun _ => False]) E (Step.refl w) E (.cons (show AR (gam K C) w σ (.ref ad) (.brw i) (fun _ => False) from ⟨ev, fun _ z => z⟩) (fun _ hG => nomatch hG) .nil) (fun G hG => by
          rw [List.mem_singleton.mp hG]; exact fun _ q => q.elim) g3 fun v2 w2 F2 E2 T2 p2 f2 => ⟨n, T2.rep.int rfl, hn.1, hn.2, by
            have := k _ w2 F2 E2 T2 p2 f2
            rw [T2.rep.int rfl] at this
            exact this⟩
      · cases he
    · cases he
  · cases he
end
end S

/-! S4: sorted(set(xs)) of texts -/
namespace S
open PySem PySem.Spec PyProof.Rows L2 PySem.Froz
/-- the payload of a set of the texts l -/
structure StS (P : Program) (w : World) (D : SD) (l : List Str) : Prop where
  tx : TxOk P w D l
  nd : l.Nodup
  ris : Ris D.2.2.place.toList
  led : w.params.followText "set-order" = true ∨ D.2.2.led = true
theorem ris_tail {ep : Nat} {es : Array (Int × Value)} {t : SetTable} {b : Bool} (r : Ris t.place.toList) : Ris (tailTx ep es t b).2.2.place.toList := by
  unfold tailTx
  by_cases c : (!b && t.tooFull) = true
  · rw [if_pos c]; exact relayAll_ris t es _
  · rw [if_neg c]; exact r
theorem led_tail {ep : Nat} {es : Array (Int × Value)} {t : SetTable} {b : Bool} : (tailTx ep es t b).2.2.led = t.led := by
  unfold tailTx
  by_cases c : (!b && t.tooFull) = true
  · rw [if_pos c]; exact relayAll_led t es _
  · rw [if_neg c]
theorem StS.add {P : Program} {w : World} {D : SD} {l : List Str} {k : Str} (u : Tok) (h : StS P w D l) (hk : k ∉ l) : StS P w (addTx (hashStr w k) (.str k u) D) (k :: l) := by
  have r1 := layNew_ris D.2.2 D.1 (hashStr w k) (.str k u) h.ris
  have l1 := layNew_led D.2.2 D.1 (hashStr w k) (.str k u)
  refine ⟨add_ok u h.tx, List.nodup_cons.mpr ⟨hk, h.nd⟩, ?_, ?_⟩
  · unfold addTx
    refine ris_tail ?_
    by_cases c : (layNew D.2.2 D.1 (hashStr w k) (.str k u)).2.1.plain = true
    · rw [if_pos c]; exact r1
    · rw [if_neg c]; exact r1
  · refine h.led.imp id fun z => ?_
    unfold addTx
    rw [led_tail]
    by_cases c : (layNew D.2.2 D.1 (hashStr w k) (.str k u)).2.1.plain = true
    · rw [if_pos c]; exact l1.trans z
    · rw [if_neg c]; exact l1.trans z
section
variable {P : Program} {w : World} {A : Around} {E : Value → Shared → Prop} {s : Shared}
theorem add_old {a : Addr} {T : String} {D : SD} {l : List Str} {k : Str} {u : Tok} {Q : Bool → Shared → Prop} (ho : s.heap.get? a = some (sObj T D)) (F : TxOk P w D l) (hk : k ∈ l) (hb : l.length < scanBound) (h : Q false s) :
    wpAny (model P w) A (setAddHashed a (.str k u) (hashStr w k)) Q E s := by
  have e0 : (sObj T D).data = .set D.1 D.2.1 D.2.2 := rfl
  have f0 : D.2.2.fits D.1.size = true := F.fit
  have l0 : D.1.size < scanBound := by rw [F.sz]; exact hb
  have k0 : (strKind P w).is k (.str k u) = true := is_str k u
  obtain ⟨e, he, q⟩ := (F.mem k).mp hk
  obtain ⟨j, hj⟩ : ∃ j, List.findIdx? (fun e => (strKind P w).is k e.2) D.1.toList = some j := by
    cases z : List.findIdx? (fun e => (strKind P w).is k e.2) D.1.toList with
    | some j => exact ⟨j, rfl⟩
    | none => exact absurd q (by rw [List.findIdx?_eq_none_iff.mp z e he]; simp)
  unfold setAddHashed setAddHashedIn
  refine wpAny_holding (wpAny_bind (wpAny_setState_of ho e0 f0 ?_))
  dsimp only
  rw [byScan_of rfl l0 F.el]
  simp only [↓reduceIte]
  unfold setAddByScan
  refine wpAny_bind (wpAny_bind (wpAny_rule (wpAny_bind (wpAny_setScan_of (knd := strKind P w) (k := k) k0 ho e0 f0 F.el ?_))))
  rw [hj]
  dsimp only
  exact wpAny_pure (wpAny_pure h)
end
section
variable {prog : Program} {w : World} {A : Around} {R : Result → Shared → Prop} {I : Addr} {fp wr : List Addr} {G : Array GenState → Array GenState → Prop} {n : Nat} {P : Nat → Value → Prop} {St : Nat → Shared → Prop}
/-- the set at S behind i items -/
def Upto (prog : Program) (w : World) (S : Addr) (xs : List Str) (i : Nat) (h : Heap) : Prop := ∃ D l, h.get? S = some (sObj "set" D) ∧ StS prog w D l ∧ l.length ≤ i ∧ ∀ k, k ∈ l ↔ k ∈ xs.take i
theorem Upto.keep {S : Addr} {xs : List Str} {i : Nat} {h h' : Heap} (u : Upto prog w S xs i h) (k : ∀ o, h.get? S = some o → h'.get? S = some o) : Upto prog w S xs i h' := by
  obtain ⟨D, l, a, b⟩ := u
  exact ⟨D, l, k _ a, b⟩
theorem upd_loop (W : WalksS prog w A.in1 I fp wr G n P St) (S : Addr) (nS : S ∉ fp) (xs : List Str) (hval : ∀ i v, P i v → ∃ x t, xs[i]? = some x ∧ v = .str x t) (hb : n + 1 < scanBound) :
    ∀ (m i : Nat) (s : Shared), n - i = m → i ≤ n → St i s → Upto prog w S xs i s.heap → (∀ s', Moved (S :: wr) G s s' → Upto prog w S xs n s'.heap → R (.ok (.ret .none)) s') →
      codeAny (model prog w) A (.builtin "set.update.loop" ⟨[.ref S, .ref I], []⟩) R s := by
  have nw : S ∉ wr := fun z => nS (W.sub _ z)
  have up : ∀ b ∈ wr, b ∈ S :: wr := fun b z => List.mem_cons_of_mem _ z
  intro m
  induction m with
  | zero =>
    intro i s em hi st u k
    obtain rfl : i = n := by omega
    refine codeAny_builtin PyProof.Rows.F.entry_set_update_loop ?_
    rw [Around.under_plainId PyProof.Rows.F.plain_set_update_loop _]
    show wpAny _ A.in1 (pyNext (.ref I) >>= _) _ _ s
    exact wpAny_bind (W.done s _ _ st fun s' mv => wpAny_pure (k s' (mv.mono up) (u.keep fun o e => mv.heap S o nw e)))
  | succ m ih =>
    intro i s em hi st u k
    have il : i < n := by omega
    refine codeAny_builtin PyProof.Rows.F.entry_set_update_loop ?_
    rw [Around.under_plainId PyProof.Rows.F.plain_set_update_loop _]
    show wpAny _ A.in1 (pyNext (.ref I) >>= _) _ _ s
    refine wpAny_bind (W.item i s _ _ il st fun v s1 pv st1 mv => ?_)
    obtain ⟨x, t, ex, rfl⟩ := hval i v pv
    obtain ⟨D, l, a1, a2, a3, a4⟩ := u.keep (h' := s1.heap) fun o e => mv.heap S o nw e
    have tk : xs.take (i + 1) = xs.take i ++ [x] := by
      rw [List.take_add_one, ex]
      rfl
    show wpAny _ A.in1 (holding [Value.str x t] (setAdd S (.str x t)) >>= _) _ _ s1
    refine wpAny_bind (wpAny_holding ?_)
    unfold setAdd
    refine wpAny_holding (wpAny_bind ((strKind prog w).pyHash (k := x) (is_str x t) ?_))
    have fin : ∀ (b : Bool) (h2 : Heap), (∀ c o, c ≠ S → s1.heap.get? c = some o → h2.get? c = some o) → Upto prog w S xs (i + 1) h2 → codeAny (model prog w) A (.builtin "set.update.loop" ⟨[.ref S, .ref I], []⟩) R { s1 with toks := s1.toks + 1, heap := h2 } := fun b h2 kp u2 => by
      refine ih (i + 1) _ (by omega) il (W.frame _ s1 _ _ st1 (Nat.le_succ _) fun c hc o e => kp c o (fun z => nS (z ▸ hc)) e) u2 fun s3 mv3 u3 => ?_
      exact k s3 (Moved.trans W.gtrans ((mv.mono up).then_heap (Nat.le_succ _) fun c o hc e => kp c o (fun z => hc (by rw [z]; exact List.mem_cons_self)) e) mv3) u3
    by_cases hx : x ∈ l
    · refine add_old (s := { s1 with toks := s1.toks + 1 }) a1 a2.tx hx (by omega) ?_
      refine wpAny_pure ⟨plainId_quiet PyProof.Rows.F.plain_set_update_loop _, fin false s1.heap (fun _ _ _ e => e) ⟨D, l, a1, a2, by omega, fun y => ?_⟩⟩
      rw [tk, List.mem_append, ← a4 y]
      exact ⟨.inl, fun z => z.elim id fun q => by rw [List.mem_singleton.mp q]; exact hx⟩
    · refine add_x (s := { s1 with toks := s1.toks + 1 }) a1 a2.tx hx (by omega) ?_
      refine wpAny_pure ⟨plainId_quiet PyProof.Rows.F.plain_set_update_loop _, fin true _ (fun c o hc e => (Heap.get?_update_other _ _ (Ne.symm hc)).trans e) ⟨_, x :: l, get_upd _ a1 rfl, a2.add t hx, by rw [List.length_cons]; omega, fun y => ?_⟩⟩
      rw [tk, List.mem_append, ← a4 y, List.mem_cons, List.mem_singleton]
      exact or_comm
end
end S

/-! S5: set(xs) of texts, sorted of it -/
namespace S
open PySem PySem.Spec PyProof.Rows L2 PySem.Froz
/-- a new set -/
def nw (w : World) : Obj := { cls := .type "set", dict := none, data := .set #[] 0 (.fresh 0 0 (!w.params.followText "set-order")) }
section
variable {P : Program} {w : World} {A : Around} {E : Value → Shared → Prop} {s : Shared}
theorem nw_upto {h : Heap} {S : Addr} {xs : List Str} (e : h.get? S = some (nw w)) : Upto P w S xs 0 h :=
  ⟨(#[], 0, .fresh 0 0 (!w.params.followText "set-order")), [], e, ⟨TxOk.nil rfl, List.nodup_nil, List.Pairwise.nil, by
    show _ ∨ (!w.params.followText "set-order") = true
    cases w.params.followText "set-order"
    · exact .inr rfl
    · exact .inl rfl⟩, Nat.le_refl 0, fun k => by simp⟩
theorem sa_at : ∀ {us : List Value} {xs : List Str} {i : Nat} {v : Value}, StrsAre us xs → us[i]? = some v → ∃ x t, xs[i]? = some x ∧ v = Value.str x t
  | _, _, _, _, .nil, e => by simp at e
  | _, _, 0, _, .cons x t _, e => by simp at e; exact ⟨x, t, rfl, e.symm⟩
  | _, _, i + 1, _, .cons _ _ r, e => sa_at (i := i) r (by simpa using e)
theorem call_setS {l : Addr} {items : Array Value} {xs : List Str} {Q : Value → Shared → Prop} (hh : A.handled = none) (hl : s.heap.IsList l items) (hv : StrsAre items.toList xs) (hb : items.size + 1 < scanBound)
    (h : ∀ (h' : Heap) (tk : Nat), Upto P w s.heap.objs.size xs items.size h' → (∀ b o, s.heap.get? b = some o → h'.get? b = some o) → Q (.ref s.heap.objs.size) { s with heap := h', toks := tk }) :
    wpAny (model P w) A (call (.type "set") [.ref l]) Q E s := by
  obtain ⟨c0, c1, c2⟩ := F.called_set.mro
  have c3 := F.called_set.made
  have c4 := F.called_set.sub
  refine wpAny_call (codeAny_of_tree ?_)
  show wpAny _ _ (callAny (.type "set") _) _ _ _
  refine wpAny_pure ⟨Code.quiet_builtin _ (by decide +kernel), codeAny_builtin F.entry_type_call ?_⟩
  rw [Around.under_plain (weight_type_call_type "set" [.ref l] []) rfl]
  have c5 := F.called_set.notType
  have c6 := F.called_set.canCreate
  have c7 := F.typeCall_set_1 (.ref l)
  repeat (any_goals (first | assumption | wp_step))
  refine codeAny_mono (code_set_led1 (.ref l) (E := E) (Q₁ := fun obj s1 => obj = .ref s.heap.objs.size ∧ s1 = { s with heap := s.heap.push (nw w) }) ⟨rfl, rfl⟩) fun r s1 hr => ?_
  cases r with
  | error e => exact hr
  | ok fl =>
    cases fl with
    | ret obj =>
      obtain ⟨rfl, rfl⟩ := hr
      have g0 : (s.heap.push (nw w)).get? s.heap.objs.size = some (nw w) := Heap.get?_push_size _ rfl
      have ty : Shared.TypeIs { s with heap := s.heap.push (nw w) } (.ref s.heap.objs.size) "set" := ⟨_, g0, rfl⟩
      have c8 := F.called_set.init.lookup
      have c9 := F.called_set.init.bind (.ref s.heap.objs.size)
      repeat (any_goals (first | assumption | wp_step))
      refine codeAny_mono (codeAny_call_builtin (R := wants (fun r s2 => r = .none ∧ ∃ h' tk, s2 = { s with heap := h', toks := tk } ∧ Upto P w s.heap.objs.size xs items.size h' ∧ (∀ b o, s.heap.get? b = some o → h'.get? b = some o)) E) F.called_set.init.plain F.entry_set_init (check_set_init_1 ty ?_)) fun r2 s2 hr2 => ?_
      · obtain ⟨ol, ho, hc, nl, hd⟩ := hl
        obtain ⟨oc, odi, oda, os⟩ := ol
        simp only at hc hd
        subst hc
        subst hd
        have ho1 : (s.heap.push (nw w)).get? l = some { cls := .type "list", dict := odi, data := .seq items nl, slots := os } := Heap.get?_push_of_some _ ho
        have b1 := F.sub_list_set
        have b2 := F.sub_list_frozenset
        have b3 : (Value.type "list" == Value.type "dict") = false := by decide
        have il : (s.heap.push (nw w)).IsList l items := ⟨_, ho1, rfl, nl, rfl⟩
        unfold Builtin.«set.__init__» noKeywords Builtin.Frozenset.updateFrom
        generalize hPI : pyIter = PI
        wp_walk
        subst hPI
        refine wpAny_pyIter_list il (wpAny_bind (wpAny_runValue ?_))
        have lt : l < s.heap.objs.size := Heap.lt_size ho
        have sz : (s.heap.push (nw w)).objs.size = s.heap.objs.size + 1 := Heap.size_push ..
        have h3 : A.in1.in1.in1.handled = none := by simp [hh]
        have ne : l ≠ (s.heap.push (nw w)).objs.size := by rw [sz]; exact Nat.ne_of_lt (Nat.lt_succ_of_lt lt)
        have nf : s.heap.objs.size ∉ [(s.heap.push (nw w)).objs.size, l] := by
          rw [sz]
          simp only [List.mem_cons, List.not_mem_nil, or_false, not_or]
          exact ⟨Nat.ne_of_lt (Nat.lt_succ_self _), Nat.ne_of_gt lt⟩
        refine upd_loop ((Walks.list h3 _ l ne items).toS) s.heap.objs.size nf xs (fun i v e => ?_) hb (items.size - 0) 0 _ (by omega) (Nat.zero_le _) ⟨⟨_, Heap.get?_push_size _ rfl, rfl, rfl⟩, (il.push _)⟩ (nw_upto (Heap.get?_push_of_some _ g0)) fun s' mv u => ?_
        · have e' : items.toList[i]? = some v := by rw [Array.getElem?_toList]; exact e
          exact sa_at hv e'
        · obtain ⟨h', g', d', tk', os'⟩ := s'
          obtain rfl : g' = s.gens := mv.gens
          obtain rfl : d' = s.drawn := mv.drawn
          obtain rfl : os' = s.os := mv.os
          show wpAny _ _ _ _ _ _
          refine wpAny_pure ?_
          show wpAny _ _ (ret Value.none) _ _ _
          refine wpAny_pure ⟨rfl, h', tk', rfl, u, fun b o e => ?_⟩
          have lb : b < s.heap.objs.size := Heap.lt_size e
          refine mv.heap b o ?_ (Heap.get?_push_of_some _ (Heap.get?_push_of_some _ e))
          rw [sz]
          simp only [List.mem_cons, List.not_mem_nil, or_false, not_or]
          exact ⟨Nat.ne_of_lt lb, Nat.ne_of_lt (Nat.lt_succ_of_lt lb)⟩
      · cases r2 with
        | error e => exact hr2
        | ok fl2 =>
          cases fl2 with
          | ret r =>
            obtain ⟨rfl, h', tk, rfl, u, kp⟩ := hr2
            repeat (any_goals (first | assumption | wp_step))
            exact h _ _ u kp
          | _ => exact hr2.elim
    | _ => exact hr.elim
theorem strs_are : ∀ (vs : List Value), (∀ v ∈ vs, ∃ x t, v = Value.str x t) → StrsAre vs (vs.map strOf)
  | [], _ => .nil
  | v :: vs, k => by
    obtain ⟨x, t, rfl⟩ := k v List.mem_cons_self
    exact .cons x t (strs_are vs fun u hu => k u (List.mem_cons_of_mem _ hu))
theorem perm_of_len {α : Type} [BEq α] [LawfulBEq α] : ∀ {l m : List α}, l.Nodup → (∀ x ∈ l, x ∈ m) → m.length = l.length → m.Perm l
  | [], m, _, _, e => by rw [List.length_eq_zero_iff.mp e]
  | x :: l, m, nd, sub, e => by
    obtain ⟨n1, n2⟩ := List.nodup_cons.mp nd
    have hx := sub x List.mem_cons_self
    have p := List.perm_cons_erase hx
    have q : (m.erase x).Perm l := perm_of_len n2 (fun y hy => by
      have := p.mem_iff.mp (sub y (List.mem_cons_of_mem _ hy))
      rcases List.mem_cons.mp this with z | z
      · exact absurd (z ▸ hy) n1
      · exact z) (by have := p.length_eq; rw [List.length_cons] at this e; omega)
    exact p.trans (q.cons x)
theorem sorted_setS {a : Addr} {xs : List Str} {n : Nat} {Q : Value → Shared → Prop} (u : Upto P w a xs n s.heap) (hh : A.handled = none) (hn : n < 64)
    (h : ∀ s' p (out : Array Value) (c : Nat) (ys l : List Str), (∀ b o, s.heap.get? b = some o → s'.heap.get? b = some o) → s'.gens = s.gens → s'.os = s.os → s.heap.objs.size ≤ p →
      s'.heap.get? p = some (seqObj "list" out c) → StrsAre out.toList ys → ys.Perm l → sortedS ys = true → l.Nodup → l.length ≤ n → (∀ k, k ∈ l ↔ k ∈ xs.take n) → Q (.ref p) s') :
    wpAny (model P w) A (call (.builtin "sorted") [.ref a]) Q E s := by
  obtain ⟨D, l, a1, a2, a3, a4⟩ := u
  refine Calls.call_function_entry kind_sorted plain_sorted entry_sorted (args_sorted1 _) ?_
  unfold Builtin.«sorted»
  have sz : D.1.size = l.length := a2.tx.sz
  have lb : D.1.size < scanBound := by rw [sz]; unfold scanBound; omega
  refine wpAny_bind (m := checkCount "sorted" 1 1 _) (wpAny_pure (wpAny_bind (collect_set (A := A.in1) hh ⟨_, a1, rfl, rfl⟩ a2.tx.fit lb a2.ris a2.led fun s1 vs k1 hz g1 o1 pm => ?_)))
  have el : ∀ v ∈ vs, ∃ x t, v = Value.str x t := fun v hv => by
    obtain ⟨e, he, rfl⟩ := List.mem_map.mp (pm.mem_iff.mp hv)
    obtain ⟨⟨k, q, _⟩, _⟩ := a2.tx.el e he
    obtain ⟨t, q⟩ := Value.isStrOf_shape q
    exact ⟨k, t, q⟩
  have hS := strs_are vs el
  have lv : vs.length = l.length := by rw [pm.length_eq, List.length_map, Array.length_toList, sz]
  have pk : (vs.map strOf).Perm l := by
    refine perm_of_len a2.nd (fun x hx => ?_) (by rw [List.length_map, lv])
    obtain ⟨e, he, q⟩ := (a2.tx.mem x).mp hx
    obtain ⟨t, q⟩ := Value.isStrOf_shape q
    refine List.mem_map.mpr ⟨e.2, pm.mem_iff.mpr (List.mem_map.mpr ⟨e, he, rfl⟩), ?_⟩
    rw [q]
    rfl
  refine wpAny_bind (wpAny_newList ?_ (by rw [lv, sizeLine_eq]; omega))
  have oL : (s1.heap.push (seqObj "list" vs.toArray 0)).get? s1.heap.objs.size = some (seqObj "list" vs.toArray 0) := Heap.get?_push_size _ rfl
  refine wpAny_bind (wpAny_holding (wpAny_call_entry slot_list_sort ⟨_, oL, rfl⟩ entry_list_sort (list_sort_treeK strKind_oneLt oL hS.keysOf (fun v1 v2 rest e => keyKind_strs (by rw [← e]; exact hS)) (by rw [lv]; omega) fun st' z1 z2 => ⟨_, rfl, ?_⟩) (args_list_sort _)))
  obtain ⟨ys, y1, y2, y3⟩ := sorted_out_str hS z1 z2
  obtain ⟨c, hc⟩ := sortedHeap_at (vs := vs) (out := (arrOf st').map (·.2)) oL
  refine wpAny_pure ⟨_, rfl, h _ s1.heap.objs.size _ c ys l (fun b o e => ?_) g1 o1 hz hc y1 (y2.trans pk) y3 a2.nd a3 a4⟩
  have q := k1 b o e
  have lt := Heap.lt_size q
  show (sortedHeap (s1.heap.push (seqObj "list" vs.toArray 0)) s1.heap.objs.size vs _).get? b = some o
  rw [sortedHeap_old (Nat.ne_of_lt lt) (by rw [size_push']; exact Nat.lt_succ_of_lt lt)]
  exact Heap.get?_push_of_some _ q
end
end S

/-! S6: sorted(set(xs)) as an expression -/
namespace S
open PySem L2 G
def SetX (P : Program) (w : World) (a : Addr) (ss : List Str) : HO := .ext fun h => Upto P w a ss ss.length h
theorem setX_new {w : World} {P : Program} {H : Hp} {h : Heap} {a : Addr} {ss : List Str} (u : Upto P w a ss ss.length h) : ObjOk P w H h a (SetX P w a ss) := by
  have ⟨D, _, ho, _⟩ := u
  exact ⟨u, ⟨_, ho⟩, fun h1 h2 p k => Upto.keep p k⟩
section
variable {X : Cx}
theorem cr_setS (hc : X.calm = true) : CallR X (.type "set") (fun xs H Q => ∃ (a : Addr) (ss : List Str), xs = [V.ref a] ∧ SqL X.K H a (ss.map V.str) ∧ ss.length < 64 ∧ ∀ p, H p = none → Q (.ref p) (upd H p (SetX X.prog X.w p ss))) := by
  intro pins s σ H vs us Q I r h
  obtain ⟨a, ss, rfl, hs, h64, q⟩ := h
  obtain ⟨its, rv, hl, _⟩ := I.list hs
  rw [Vals.ref1 r]
  have len := rv.length
  rw [List.length_map] at len
  have sz : its.toArray.size = ss.length := by simp [len]
  refine call_setS (I.ok.hd hc) hl.isList (by simpa using rv.strs) (by rw [sz]; unfold scanBound; omega) fun h' tk u kp => ?_
  rw [sz] at u
  exact ⟨.ref _, upd H s.heap.objs.size (SetX X.prog X.w s.heap.objs.size ss), I.laid (t' := tk) kp (Nat.le_refl _) (setX_new u), rfl, q _ (I.hok.fresh (Nat.le_refl _))⟩
theorem cr_sortedX (hc : X.calm = true) : CallR X (.builtin "sorted") (fun xs H Q => ∃ (a : Addr) (ss : List Str), xs = [V.ref a] ∧ H a = some (SetX X.prog X.w a ss) ∧ ss.length < 64 ∧
    ∀ (ys l : List Str) (p : Addr), ys.Perm l → PyProof.Rows.sortedS ys = true → l.Nodup → (∀ k, k ∈ l ↔ k ∈ ss) → H p = none → Q (.ref p) (upd H p (.lst (ys.map V.str)))) := by
  intro pins s σ H vs us Q I r h
  obtain ⟨a, ss, rfl, ha, h64, q⟩ := h
  have u : Upto X.prog X.w a ss ss.length s.heap := (I.hok a _ ha).1
  rw [Vals.ref1 r]
  refine sorted_setS u (I.ok.hd hc) h64 fun s' p out c ys l k g o hp hg hi pm so nd ln me => ?_
  have hlen : (ys.map V.str).length ≤ sizeLine := by rw [List.length_map, pm.length_eq, sizeLine_eq]; omega
  have hn : H p = none := I.hok.fresh hp
  have J : Inv X pins σ (upd H p (.lst (ys.map V.str))) { s with heap := s'.heap, gens := s'.gens, drawn := s'.drawn, toks := s'.toks } :=
    I.call (ch := []) (Un.laid k hp hn) (I.hok.laid k hp ⟨hlen, out.toList, c, vals_of_strs hi, hg⟩) (by rw [g]; exact I.bare) (fun _ z => nomatch z)
  have e : s' = { s with heap := s'.heap, gens := s'.gens, drawn := s'.drawn, toks := s'.toks } := by
    cases s'; cases s; cases o; rfl
  rw [e]
  refine ⟨.ref p, _, J, rfl, q ys l p pm so nd (fun k => ?_) hn⟩
  rw [me k, List.take_length]
end
/-- each once -/
def dd : List Str → List Str
  | [] => []
  | x :: xs => if (dd xs).contains x then dd xs else x :: dd xs
theorem dd_mem {k : Str} : ∀ {xs : List Str}, k ∈ dd xs ↔ k ∈ xs
  | [] => Iff.rfl
  | x :: xs => by
    unfold dd
    by_cases c : (dd xs).contains x = true
    · rw [if_pos c, dd_mem (xs := xs), List.mem_cons]
      have : x ∈ xs := dd_mem.mp (List.contains_iff_mem.mp c)
      exact ⟨.inr, fun z => z.elim (fun e => e ▸ this) id⟩
    · rw [if_neg c, List.mem_cons, List.mem_cons, dd_mem (xs := xs)]
theorem dd_nodup : ∀ xs : List Str, (dd xs).Nodup
  | [] => List.nodup_nil
  | x :: xs => by
    unfold dd
    by_cases c : (dd xs).contains x = true
    · rw [if_pos c]; exact dd_nodup xs
    · rw [if_neg c]
      exact List.nodup_cons.mpr ⟨fun z => c (List.contains_iff_mem.mpr z), dd_nodup xs⟩
section
variable {K : PySem.W.Frag} {C : Addr} {X : Cx} {e : Expr} {p1 p2 p3 p4 : Pos}
def mSortSet (f : Ev (gam K C)) : Ev (gam K C) := fun env =>
  match f env with
  | some (.lst ds, env') => match allStr ds with
    | some ss => if ss.length < 64 then some (.lst ((sortS (dd ss)).map .str), env') else none
    | none => none
  | _ => none
theorem sd_sortset {f : Ev (gam K C)} (hg1 : Gl X "sorted") (hm1 : X.mg "sorted" = none) (hg2 : Gl X "set") (hm2 : X.mg "set" = none) (he' : SdE (gam K C) X e f) (na : NS X e) :
    SdE (gam K C) X (.Call (.Name "sorted" p1) [.Call (.Name "set" p2) [e] [] p3] [] p4) (mSortSet f) := by
  intro hK σ env r env' w Q he E k
  unfold mSortSet at he
  split at he
  · rename_i ds env1 g1
    split at he
    · rename_i ss g2
      split at he
      · rename_i h64
        cases he
        refine wE.of (pe_callB (x := "sorted") (cr_sortedX hK.calm) hg1 hm1 (by decide +kernel) (pa_wL (es := [.Call (.Name "set" p2) [e] [] p3]) fun e h => by rw [List.mem_singleton.mp h]; exact fun _ => rfl) (by decide) rfl rfl) ?_
        show wE X (.Call (.Name "set" p2) [e] [] p3) σ w.H fun v H1 => _
        refine wE.of (pe_callTy (x := "set") (cr_setS hK.calm) hg2 hm2 (by decide +kernel) (pa_wL (es := [e]) fun e h => by rw [List.mem_singleton.mp h]; exact na) (by decide) (by decide) (na _) rfl) ?_
        show wE X e σ w.H fun v H1 => _
        refine he' hK σ env _ _ w _ g1 E fun v w1 Fr E1 T1 p1 f1 => ?_
        obtain ⟨p, vs, rfl, hp, r1, hF⟩ := T1.rep
        have ev := allStr_ok r1 g2
        subst ev
        refine ⟨p, ss, rfl, .inl (.inl hp), h64, fun q hq => ?_⟩
        obtain ⟨E2, p2⟩ := E1.grow (Fr := fun _ => False) (H' := upd w1.H q (SetX X.prog X.w q ss)) (upd_keep hq) fun _ z => z.elim
        refine ⟨q, ss, rfl, upd_same, h64, fun ys l z h1 h2 h3 h4 hz => ?_⟩
        have e1 : ys = sortS (dd ss) := by
          refine sortS_of (h1.trans ?_) h2
          refine (List.perm_ext_iff_of_nodup h3 (dd_nodup ss)).mpr fun k => ?_
          rw [h4 k, dd_mem]
        subst e1
        have p12 := p1.trans p2 E.dom
        exact res_of E2 (fun v3 w3 Fr3 E3 T3 p3 f3 => k v3 w3 Fr3 E3 T3 (p12.trans p3 E.dom) (f3.back p12)) _ _ _ (upd_keep hz) (fun a y => by subst y; exact ⟨hz, by rw [upd_same]; simp⟩) ⟨z, _, rfl, upd_same, strs_dats _, fun a => Iff.rfl⟩
      · cases he
    · cases he
  · cases he
end
end S

/-! S7: give -/
namespace S
open PySem L2 G
def upd1 : List (Str × List Str) → Str → Str → List (Str × List Str)
  | [], _, _ => []
  | (k, xs) :: g, x, y => if k = x then (k, xs ++ [y]) :: g else (k, xs) :: upd1 g x y
def addRow (g : List (Str × List Str)) (x y : Str) : List (Str × List Str) :=
  match get g x with
  | none => g ++ [(x, [y])]
  | some xs => if xs.contains y = true then g else upd1 g x y
def isNew (g : List (Str × List Str)) (x y : Str) : Bool := match get g x with | none => true | some xs => !xs.contains y
def setG (b : Bool) (o : Sd) (g : List (Str × List Str)) : Sd := if b then { o with giv := g } else { o with stm := g }
def give (b : Bool) (o : Sd) (x y : Str) : Sd := setG b o (addRow (pick b o) x y)
theorem rows_upd {H H' : Hp} {x y : Str} {p : Addr} : ∀ {g : List (Str × List Str)} {ps : List Addr} {xs : List Str}, Rows H g ps → get g x = some xs → valV (kvs g ps) (.inr x) = some (.ref p) → ps.Nodup → H' p = some (.lst ((xs ++ [y]).map V.str)) → (∀ q ∈ ps, q ≠ p → H' q = H q) →
    Rows H' (upd1 g x y) ps ∧ kvs (upd1 g x y) ps = kvs g ps
  | _, _, _, .nil, e, _, _, _, _ => by cases e
  | _, _, zs, .cons (x := k) (xs := ks) (p := q) (g := g) (ps := ps) h r, e1, e2, nd, hp, kp => by
    unfold S.get at e1
    unfold valV kvs at e2
    rw [List.zipWith_cons_cons, List.find?_cons] at e2
    rw [List.find?_cons] at e1
    obtain ⟨n1, n2⟩ := List.nodup_cons.mp nd
    unfold upd1
    by_cases e : k = x
    · simp only [e, decide_true] at e1 e2
      cases e1
      cases e2
      rw [if_pos e]
      refine ⟨.cons hp (r.go fun z hz u hu => ?_), ?_⟩
      · rw [kp z (List.mem_cons_of_mem _ hz) (fun w => n1 (w ▸ hz))]; exact hu
      · unfold kvs; rw [List.zipWith_cons_cons, List.zipWith_cons_cons]
    · have e' : ¬ ((Sum.inr k : Key) = .inr x) := fun z => e (Sum.inr.inj z)
      simp only [e, decide_false] at e1
      simp only [e', decide_false] at e2
      rw [if_neg e]
      obtain ⟨r1, r2⟩ := rows_upd r e1 e2 n2 hp fun z hz => kp z (List.mem_cons_of_mem _ hz)
      have hm : p ∈ ps := by
        rcases Rows.get (x := x) r with ⟨z, _⟩ | ⟨_, p', _, z, z3, _⟩
        · rw [show S.get g x = some zs from e1] at z; cases z
        · rw [show valV (kvs g ps) (.inr x) = some (.ref p) from e2] at z; cases z; exact z3
      refine ⟨.cons (by rw [kp q List.mem_cons_self (fun w => n1 (w ▸ hm))]; exact h) r1, ?_⟩
      unfold kvs at r2 ⊢
      rw [List.zipWith_cons_cons, List.zipWith_cons_cons, r2]
theorem rows_new {H H' : Hp} {x y : Str} {p : Addr} (hp : H' p = some (.lst ([y].map V.str))) : ∀ {g : List (Str × List Str)} {ps : List Addr}, Rows H g ps → (∀ q ∈ ps, H' q = H q) → Rows H' (g ++ [(x, [y])]) (ps ++ [p]) ∧ kvs (g ++ [(x, [y])]) (ps ++ [p]) = kvs g ps ++ [(.inr x, .ref p)]
  | _, _, .nil, _ => ⟨.cons hp .nil, rfl⟩
  | _, _, .cons h r, kp => by
    obtain ⟨r1, r2⟩ := rows_new hp r fun q hq => kp q (List.mem_cons_of_mem _ hq)
    refine ⟨.cons (by rw [kp _ List.mem_cons_self]; exact h) r1, ?_⟩
    unfold kvs at r2 ⊢
    rw [List.cons_append, List.cons_append, List.zipWith_cons_cons, List.zipWith_cons_cons, r2]
    rfl
theorem putK_new {ks : List (Key × V)} {k : Key} {v : V} (h : valV ks k = none) : putK ks k v = ks ++ [(k, v)] := by
  unfold putK
  unfold valV at h
  have hn : ks.find? (fun kv => decide (kv.1 = k)) = none := by
    cases q : ks.find? (fun kv => decide (kv.1 = k)) with
    | none => rfl
    | some z => rw [q] at h; cases h
  rw [if_neg]
  intro z
  rw [List.any_eq_true] at z
  obtain ⟨a, ha, hk⟩ := z
  rw [List.find?_eq_none] at hn
  exact hn a ha hk
section
variable {K : PySem.W.Frag} {C : Addr} {M M' : Addr → Prop} {H H' : Hp} {o : Sd} {a t d1 d2 dx d : Addr} {ps1 ps2 ps ps' : List Addr} {g' : List (Str × List Str)}
/-- which dict, which rows -/
def dOf (b : Bool) (d1 d2 : Addr) : Addr := if b then d1 else d2
def pOf (b : Bool) (ps1 ps2 : List Addr) : List Addr := if b then ps1 else ps2
def own' (b : Bool) (a d1 d2 : Addr) (ps1 ps2 ps' : List Addr) : List Addr := if b then own a d1 d2 ps' ps2 else own a d1 d2 ps1 ps'
theorem At.put (b : Bool) (h : At K C M H o a t d1 d2 dx ps1 ps2) (go : Go M H M' H') (kp : ∀ q ∈ own a d1 d2 ps1 ps2, q ≠ dOf b d1 d2 → q ∉ pOf b ps1 ps2 → H' q = H q) (h1 : H' (dOf b d1 d2) = some (.dK (kvs g' ps'))) (r : Rows H' g' ps') (nd : (own' b a d1 d2 ps1 ps2 ps').Nodup) :
    ∃ qs1 qs2, At K C M' H' (setG b o g') a t d1 d2 dx qs1 qs2 ∧ own a d1 d2 qs1 qs2 = own' b a d1 d2 ps1 ps2 ps' := by
  have n0 := h.nd
  rw [List.nodup_cons, List.nodup_cons, List.nodup_cons, List.nodup_append] at n0
  obtain ⟨na, n1, n2, n3, n4, n5⟩ := n0
  simp only [List.mem_cons, List.mem_append, not_or] at na n1 n2
  cases b with
  | true =>
    refine ⟨ps', ps2, ⟨?_, h.hT.go go, h1, ?_, r, h.r2.go fun p hp u e => ?_, nd⟩, rfl⟩
    · rw [kp a (by simp [own]) na.1 na.2.2.1]; exact h.hA
    · rw [kp d2 (by simp [own]) (Ne.symm n1.1) n2.1]; exact h.h2
    · rw [kp p (by simp [own, hp]) (fun z => n1.2.2 ((show p = d1 from z) ▸ hp)) (fun z => n5 p z p hp rfl)]; exact e
  | false =>
    refine ⟨ps1, ps', ⟨?_, h.hT.go go, ?_, h1, h.r1.go fun p hp u e => ?_, r, nd⟩, rfl⟩
    · rw [kp a (by simp [own]) na.2.1 na.2.2.2]; exact h.hA
    · rw [kp d1 (by simp [own]) n1.1 n1.2.2]; exact h.h1
    · rw [kp p (by simp [own, hp]) (fun z => n2.1 ((show p = d2 from z) ▸ hp)) (fun z => n5 p hp p z rfl)]; exact e
theorem At.dict2 (b : Bool) (h : At K C M H o a t d1 d2 dx ps1 ps2) : H (dOf b d1 d2) = some (.dK (kvs (pick b o) (pOf b ps1 ps2))) ∧ Rows H (pick b o) (pOf b ps1 ps2) ∧ (pOf b ps1 ps2).Nodup ∧ dOf b d1 d2 ∈ own a d1 d2 ps1 ps2 ∧ (∀ p ∈ pOf b ps1 ps2, p ∈ own a d1 d2 ps1 ps2 ∧ p ≠ dOf b d1 d2) ∧ own' b a d1 d2 ps1 ps2 (pOf b ps1 ps2) = own a d1 d2 ps1 ps2 := by
  have n0 := h.nd
  rw [List.nodup_cons, List.nodup_cons, List.nodup_cons, List.nodup_append] at n0
  obtain ⟨na, n1, n2, n3, n4, n5⟩ := n0
  simp only [List.mem_cons, List.mem_append, not_or] at na n1 n2
  cases b with
  | true => exact ⟨h.h1, h.r1, n3, by simp [own, dOf], fun p hp => ⟨by simp only [pOf] at hp; simp [own]; exact .inr (.inr (.inr (.inl hp))), fun z => n1.2.1 ((show p = d1 from z) ▸ hp)⟩, rfl⟩
  | false => exact ⟨h.h2, h.r2, n4, by simp [own, dOf], fun p hp => ⟨by simp only [pOf] at hp; simp [own]; exact .inr (.inr (.inr (.inr hp))), fun z => n2.2 ((show p = d2 from z) ▸ hp)⟩, rfl⟩
theorem own_snoc {b : Bool} {p : Addr} (nd : (own a d1 d2 ps1 ps2).Nodup) (hp : p ∉ own a d1 d2 ps1 ps2) : (own' b a d1 d2 ps1 ps2 (pOf b ps1 ps2 ++ [p])).Nodup ∧ ∀ q, q ∈ own' b a d1 d2 ps1 ps2 (pOf b ps1 ps2 ++ [p]) ↔ q ∈ own a d1 d2 ps1 ps2 ∨ q = p := by
  have pm : (own' b a d1 d2 ps1 ps2 (pOf b ps1 ps2 ++ [p])).Perm (p :: own a d1 d2 ps1 ps2) := by
    have e : ∀ l m : List Addr, (a :: d1 :: d2 :: ((l ++ [p]) ++ m)).Perm (p :: a :: d1 :: d2 :: (l ++ m)) := fun l m => by
      have h1 : (a :: d1 :: d2 :: ((l ++ [p]) ++ m)) = (a :: d1 :: d2 :: l) ++ p :: m := by simp
      rw [h1]
      exact List.perm_middle
    have e2 : ∀ l m : List Addr, (a :: d1 :: d2 :: (l ++ (m ++ [p]))).Perm (p :: a :: d1 :: d2 :: (l ++ m)) := fun l m => by
      have h1 : (a :: d1 :: d2 :: (l ++ (m ++ [p]))) = (a :: d1 :: d2 :: (l ++ m)) ++ p :: [] := by simp
      have h2 : (p :: a :: d1 :: d2 :: (l ++ m)) = p :: ((a :: d1 :: d2 :: (l ++ m)) ++ []) := by simp
      rw [h1, h2]
      exact List.perm_middle
    cases b with
    | true => exact e ps1 ps2
    | false => exact e2 ps1 ps2
  refine ⟨pm.nodup_iff.mpr (List.nodup_cons.mpr ⟨hp, nd⟩), fun q => ?_⟩
  rw [pm.mem_iff, List.mem_cons]
  exact or_comm
end
end S

/-! S8: give, its body -/
namespace S
open PySem L2 G
section
variable {K : PySem.W.Frag} {C : Addr} {X : Cx}
def mGive : Es (gam K C) := fun env =>
  match env with
  | [.obj (false, o), .dat (.str x), .dat (.str y), .dat (.bl b), .none, .none] =>
    if (pick b o).length < 1000 ∧ ((get (pick b o) x).getD []).length < 1000 then
      some (.rt (.dat (.bl (isNew (pick b o) x y))), [.obj (false, give b o x y), .dat (.str x), .dat (.str y), .dat (.bl b), .none, .none])
    else none
  | _ => none
def tGive (K : PySem.W.Frag) : TS :=
  tSeq (tAsg (tIf (fun σ H Q => tVar 3 σ H fun x H' => ∃ k, TruV K x H' k ∧ Q k H') (tFld K (tVar 0) "given") (tFld K (tVar 0) "stamped")) (gName 4))
  (tSeq (tAsg (tDSetd (tVar 4) (tVar 1) (tLst tNil)) (gName 5))
  (tSeq (tIfS (tTest (tOp (rIn K false) (tVar 2) (tVar 5))) (tRet (tC (.bl false))) tNext)
  (tSeq (tDrop (tBM K "list" rAppend (tVar 5) (tCons (tVar 2) tNil)))
  (tRet (tC (.bl true))))))
theorem inV_strs (y : Str) (xs : List Str) : inV (.str y) (xs.map V.str) = xs.contains y := by
  unfold inV
  induction xs with
  | nil => rfl
  | cons x xs ih =>
    rw [List.map_cons, List.any_cons, List.contains_cons, ih]
    congr 1
    show (x == y) = (y == x)
    exact BEq.comm
theorem flat_strs (xs : List Str) : (xs.map V.str).all flatV = true := by
  rw [List.all_map, List.all_eq_true]
  intro x _
  rfl
theorem get6 {vs : List (Option V)} {v0 v1 v2 v3 v4 v5 : Option V} (e : vs = [v0, v1, v2, v3, v4, v5]) (u w : V) : ((vs.set 4 (some u)).set 5 (some w)) = [v0, v1, v2, v3, some u, some w] := by subst e; rfl
theorem give_ok {body : List Stmt} (cs : Cs K C) (hP : PSs X body (tGive X.K)) : SdSs (gam K C) X [4, 5] body mGive := by
  intro hK σ env fl env' w D he E k
  have hk : K = X.K := hK.k
  unfold mGive at he
  split at he
  · rename_i o x y b
    split at he
    · rename_i hl
      cases he
      obtain ⟨v0, e0, a, t, d1, d2, dx, ps1, ps2, rfl, hA, hF⟩ := E.at (i := 0) (s := .obj (false, o)) rfl
      obtain ⟨v1, e1, rv1, _⟩ := E.at (i := 1) (s := .dat (.str x)) rfl
      obtain ⟨v2, e2, rv2, _⟩ := E.at (i := 2) (s := .dat (.str y)) rfl
      obtain ⟨v3, e3, rv3, _⟩ := E.at (i := 3) (s := .dat (.bl b)) rfl
      cases rv1
      cases rv2
      cases rv3
      have hF0 : ∀ q, w.F 0 q ↔ q ∈ own a d1 d2 ps1 ps2 := by
        rcases hF with z | z
        · exact z.2
        · cases z.1
      have sl : σ.length = 6 := E.len.symm
      obtain ⟨u4, u5, rfl⟩ : ∃ u4 u5, σ = [some (.ref a), some (.str x), some (.str y), some (.bl b), u4, u5] := by
        match σ, sl with
        | [w0, w1, w2, w3, w4, w5], _ =>
          cases e0; cases e1; cases e2; cases e3
          exact ⟨_, _, rfl⟩
      have noF : ∀ i q, i ≠ 0 → ¬ w.F i q := fun i q hi z => by
        match i, hi with
        | 1, _ =>
          rcases E.slot 1 _ rfl with ⟨y1, _⟩ | ⟨_, _, y1⟩
          · cases y1
          · exact y1.2 q z
        | 2, _ =>
          rcases E.slot 2 _ rfl with ⟨y1, _⟩ | ⟨_, _, y1⟩
          · cases y1
          · exact y1.2 q z
        | 3, _ =>
          rcases E.slot 3 _ rfl with ⟨y1, _⟩ | ⟨_, _, y1⟩
          · cases y1
          · exact y1.2 q z
        | 4, _ =>
          rcases E.slot 4 _ rfl with ⟨_, y1⟩ | ⟨_, _, y1⟩
          · exact y1 q z
          · exact y1
        | 5, _ =>
          rcases E.slot 5 _ rfl with ⟨_, y1⟩ | ⟨_, _, y1⟩
          · exact y1 q z
          · exact y1
        | i + 6, _ => exact E.out (i + 6) (by simp) q z
      obtain ⟨hD, hR, hnd, hdo, hpo, heo⟩ := hA.dict2 b
      -- what is behind it
      have fin : ∀ (H' : Hp) (new : Addr → Prop) (qs1 qs2 : List Addr) (u v : V), (∀ q, new q → w.H q = none ∧ H' q ≠ none) → (∀ q z, q ∉ own a d1 d2 ps1 ps2 → w.H q = some z → H' q = some z) → (∀ q, w.H q ≠ none → H' q ≠ none) →
          At K C (fun q => w.M q ∨ new q) H' (give b o x y) a t d1 d2 dx qs1 qs2 → (∀ q, q ∈ own a d1 d2 qs1 qs2 → q ∈ own a d1 d2 ps1 ps2 ∨ new q) →
          D.rt (.bl (isNew (pick b o) x y)) H' := fun H' new qs1 qs2 u v hnew hkp hlv hA' hsub => by
        have go : Go w.M w.H (fun q => w.M q ∨ new q) H' := ⟨fun q z n e => hkp q z (fun y1 => n (E.sub 0 q ((hF0 q).mpr y1))) e, fun q n e z => z.elim n fun y1 => e (hnew q y1).1⟩
        refine k (.bl (isNew (pick b o) x y)) [some (.ref a), some (.str x), some (.str y), some (.bl b), some u, some v] ⟨fun q => w.M q ∨ new q, fun i q => i = 0 ∧ q ∈ own a d1 d2 qs1 qs2, H'⟩ (fun _ => False) ?_ (TR.dat (.bl _)) ⟨fun q z n e => hkp q z (fun y1 => n 0 ((hF0 q).mpr y1)) e, fun q _ m => .inl m, fun q m => m.imp id fun z => (hnew q z).1, fun i q z => ?_, hlv⟩ (fun _ z => z.elim) ?_
        · refine ⟨rfl, fun i s e => ?_, fun i q z => ?_, fun i j q z z' => z.1.trans z'.1.symm, fun q m => ?_, fun i hi q z => ?_⟩
          · match i, e with
            | 0, e => cases e; exact .inr ⟨.ref a, rfl, a, t, d1, d2, dx, qs1, qs2, rfl, hA', .inl ⟨rfl, fun q => ⟨fun z => z.2, fun z => ⟨rfl, z⟩⟩⟩⟩
            | 1, e => cases e; exact .inr ⟨.str x, rfl, .str x, fun q z => by cases z.1⟩
            | 2, e => cases e; exact .inr ⟨.str y, rfl, .str y, fun q z => by cases z.1⟩
            | 3, e => cases e; exact .inr ⟨.bl b, rfl, .bl b, fun q z => by cases z.1⟩
            | 4, e => cases e; exact .inl ⟨rfl, fun q z => by cases z.1⟩
            | 5, e => cases e; exact .inl ⟨rfl, fun q z => by cases z.1⟩
          · exact (hsub q z.2).imp (fun y1 => E.sub 0 q ((hF0 q).mpr y1)) id
          · exact m.elim (fun y1 => hlv q (E.dom q y1)) fun y1 => (hnew q y1).2
          · rw [z.1] at hi; simp at hi
        · rcases hsub q z.2 with y1 | y1
          · exact .inl ⟨0, (hF0 q).mpr y1⟩
          · exact .inr (hnew q y1).1
        · refine ⟨rfl, fun i hi => ?_⟩
          match i, hi with
          | 0, _ => rfl
          | 1, _ => rfl
          | 2, _ => rfl
          | 3, _ => rfl
          | 4, hi => exact absurd (by simp) hi
          | 5, hi => exact absurd (by simp) hi
          | i + 6, _ => rfl
      have goI : Go w.M w.H (fun q => w.M q ∨ False) w.H := go_or
      refine wSs.of hP ?_
      -- table
      refine ⟨.bl b, rfl, b, rfl, ?_⟩
      have tab : ∀ Q : VK, Q (.ref (dOf b d1 d2)) w.H → (if b = true then tFld X.K (tVar 0) "given" [some (.ref a), some (.str x), some (.str y), some (.bl b), u4, u5] w.H Q else tFld X.K (tVar 0) "stamped" [some (.ref a), some (.str x), some (.str y), some (.bl b), u4, u5] w.H Q) := fun Q q => by
        cases b with
        | true => rw [if_pos rfl]; exact ⟨_, rfl, a, C, dx, _, _, rfl, hA.hA, hk ▸ cs.cl, hk ▸ cs.ng, lkG _ _ _, q⟩
        | false => rw [if_neg Bool.false_ne_true]; exact ⟨_, rfl, a, C, dx, _, _, rfl, hA.hA, hk ▸ cs.cl, hk ▸ cs.ns, lkS _ _ _, q⟩
      refine tab _ ?_
      -- row
      refine ⟨_, rfl, dOf b d1 d2, rfl, .inl ⟨_, .inl hD⟩, _, rfl, by decide, fun p hp => ?_⟩
      have len : (kvs (pick b o) (pOf b ps1 ps2)).length < sizeLine := by
        unfold kvs
        rw [List.length_zipWith, hR.len, Nat.min_self]
        exact Nat.lt_trans hl.1 (by decide)
      have pno : p ∉ own a d1 d2 ps1 ps2 := fun z => hA.live p z hp
      have ndp : p ≠ dOf b d1 d2 := fun z => pno (z ▸ hdo)
      refine ⟨kvs (pick b o) (pOf b ps1 ps2), .inr x, upd_keep hp _ _ hD, rfl, len, fun v hv => ?_, fun hv => ?_⟩
      · -- the row is there
        rcases Rows.get (x := x) hR with ⟨_, z2⟩ | ⟨xs, q, z1, z2, z3, z4⟩
        · rw [z2] at hv; cases hv
        rw [z2] at hv
        cases hv
        have qno := hpo q z3
        have hq : upd w.H p (.lst []) q = some (.lst (xs.map V.str)) := upd_keep hp _ _ z4
        refine ⟨_, rfl, _, rfl, q, xs.map V.str, rfl, .inl (.inl (.inl hq)), rfl, flat_strs xs, _, rfl, ?_⟩
        rw [if_neg Bool.false_ne_true, inV_strs]
        show (if xs.contains y = true then _ else _)
        by_cases c : xs.contains y = true
        · rw [if_pos c]
          have ez : give b o x y = o := by
            unfold give addRow
            rw [z1]
            simp only [c, if_true]
            unfold setG pick
            cases b <;> rfl
          have en : isNew (pick b o) x y = false := by unfold isNew; rw [z1]; simp only [c]; rfl
          have := fin (upd w.H p (.lst [])) (fun _ => False) ps1 ps2 (.ref (dOf b d1 d2)) (.ref q) (fun _ z => z.elim) (fun r z _ e => upd_keep hp _ _ e) (fun r e => by
            cases e' : w.H r with
            | none => exact absurd e' e
            | some z => rw [upd_keep hp _ _ e']; simp) (by rw [ez]; exact hA.go (go_new hp _ fun r z => .inl (z.elim id False.elim)) fun r _ z e => upd_keep hp _ _ e) fun r z => .inl z
          rw [en] at this
          exact this
        · rw [if_neg c]
          have ly : (xs.map V.str).length < sizeLine := by
            rw [List.length_map]
            have := hl.2
            rw [z1] at this
            exact Nat.lt_trans this (by decide)
          refine ⟨_, rfl, .inl ⟨rfl, _, .inl (.inl hq)⟩, _, rfl, q, xs.map V.str, .str y, rfl, rfl, hq, ly, ?_⟩
          have en : isNew (pick b o) x y = true := by unfold isNew; rw [z1]; simp only [c]; rfl
          have eg : give b o x y = setG b o (upd1 (pick b o) x y) := by unfold give addRow; rw [z1]; simp only [c, if_false]; rfl
          have hp1 : upd (upd w.H p (.lst [])) q (.lst (xs.map V.str ++ [.str y])) q = some (.lst ((xs ++ [y]).map V.str)) := by rw [upd_same, List.map_append]; rfl
          have oth : ∀ r, r ≠ q → r ≠ p → upd (upd w.H p (.lst [])) q (.lst (xs.map V.str ++ [.str y])) r = w.H r := fun r h1 h2 => by rw [upd_ne h1, upd_ne h2]
          have opn : ∀ r ∈ own a d1 d2 ps1 ps2, r ≠ p := fun r hr z => pno (z ▸ hr)
          obtain ⟨r1, r2⟩ := rows_upd (H' := upd (upd w.H p (.lst [])) q (.lst (xs.map V.str ++ [.str y]))) hR z1 z2 hnd hp1 fun r hr hn => oth r hn (opn r (hpo r hr).1)
          have go2 : Go w.M w.H (fun r => w.M r ∨ False) (upd (upd w.H p (.lst [])) q (.lst (xs.map V.str ++ [.str y]))) := ⟨fun r z n e => by
            rw [oth r (fun y1 => n (E.sub 0 r ((hF0 r).mpr (y1 ▸ qno.1)))) (ne_of_none e hp)]; exact e, fun r n _ z => z.elim n id⟩
          obtain ⟨qs1, qs2, h1, h2⟩ := hA.put b go2 (fun r hr h1 h2 => oth r (fun z => h2 (z ▸ z3)) (opn r hr)) (by rw [oth _ (Ne.symm qno.2) (Ne.symm ndp), r2]; exact hD) r1 (by rw [heo]; exact hA.nd)
          have := fin (upd (upd w.H p (.lst [])) q (.lst (xs.map V.str ++ [.str y]))) (fun _ => False) qs1 qs2 (.ref (dOf b d1 d2)) (.ref q) (fun _ z => z.elim) (fun r z n e => by rw [oth r (fun y1 => n (y1 ▸ qno.1)) (ne_of_none e hp)]; exact e) (fun r e => by
            by_cases c1 : r = q
            · rw [c1, upd_same]; simp
            · rw [upd_ne c1]
              cases e' : w.H r with
              | none => exact absurd e' e
              | some z => rw [upd_keep hp _ _ e']; simp) (by rw [eg]; exact h1) fun r z => .inl (by rw [h2, heo] at z; exact z)
          rw [en] at this
          exact this
      · -- the row is new
        have z1 : get (pick b o) x = none := by
          rcases Rows.get (x := x) hR with ⟨z1, _⟩ | ⟨_, _, _, z2, _⟩
          · exact z1
          · rw [z2] at hv; cases hv
        rw [putK_new hv]
        have hq : upd (upd w.H p (.lst [])) (dOf b d1 d2) (.dK (kvs (pick b o) (pOf b ps1 ps2) ++ [(.inr x, .ref p)])) p = some (.lst []) := by rw [upd_ne ndp, upd_same]
        refine ⟨_, rfl, _, rfl, p, [], rfl, .inl (.inl (.inl hq)), rfl, rfl, _, rfl, ?_⟩
        rw [if_neg Bool.false_ne_true]
        have ei : inV (.str y) [] = false := rfl
        rw [ei]
        show (if false = true then _ else _)
        rw [if_neg Bool.false_ne_true]
        refine ⟨_, rfl, .inl ⟨rfl, _, .inl (.inl hq)⟩, _, rfl, p, [], .str y, rfl, rfl, hq, by decide, ?_⟩
        have en : isNew (pick b o) x y = true := by unfold isNew; rw [z1]
        have eg : give b o x y = setG b o (pick b o ++ [(x, [y])]) := by unfold give addRow; rw [z1]
        have hp1 : upd (upd (upd w.H p (.lst [])) (dOf b d1 d2) (.dK (kvs (pick b o) (pOf b ps1 ps2) ++ [(.inr x, .ref p)]))) p (.lst ([] ++ [.str y])) p = some (.lst ([y].map V.str)) := by rw [upd_same]; rfl
        have oth : ∀ r, r ≠ dOf b d1 d2 → r ≠ p → upd (upd (upd w.H p (.lst [])) (dOf b d1 d2) (.dK (kvs (pick b o) (pOf b ps1 ps2) ++ [(.inr x, .ref p)]))) p (.lst ([] ++ [.str y])) r = w.H r := fun r h1 h2 => by rw [upd_ne h2, upd_ne h1, upd_ne h2]
        have opn : ∀ r ∈ own a d1 d2 ps1 ps2, r ≠ p := fun r hr z => pno (z ▸ hr)
        obtain ⟨r1, r2⟩ := rows_new (x := x) hp1 hR fun r hr => oth r (hpo r hr).2 (opn r (hpo r hr).1)
        have go2 : Go w.M w.H (fun r => w.M r ∨ r = p) (upd (upd (upd w.H p (.lst [])) (dOf b d1 d2) (.dK (kvs (pick b o) (pOf b ps1 ps2) ++ [(.inr x, .ref p)]))) p (.lst ([] ++ [.str y]))) := ⟨fun r z n e => by
          rw [oth r (fun y1 => n (E.sub 0 r ((hF0 r).mpr (y1 ▸ hdo)))) (ne_of_none e hp)]; exact e, fun r n e z => z.elim n fun y1 => e (y1 ▸ hp)⟩
        obtain ⟨n1, n2⟩ := own_snoc (b := b) hA.nd pno
        obtain ⟨qs1, qs2, h1, h2⟩ := hA.put b go2 (fun r hr h1 h2 => oth r h1 (opn r hr)) (by rw [upd_ne (Ne.symm ndp), upd_same, r2]) r1 n1
        have := fin (upd (upd (upd w.H p (.lst [])) (dOf b d1 d2) (.dK (kvs (pick b o) (pOf b ps1 ps2) ++ [(.inr x, .ref p)]))) p (.lst ([] ++ [.str y]))) (fun r => r = p) qs1 qs2 (.ref (dOf b d1 d2)) (.ref p) (fun r z => by subst z; exact ⟨hp, by rw [upd_same]; simp⟩) (fun r z n e => by rw [oth r (fun y1 => n (y1 ▸ hdo)) (ne_of_none e hp)]; exact e) (fun r e => by
          by_cases c1 : r = p
          · rw [c1, upd_same]; simp
          · rw [upd_ne c1]
            by_cases c2 : r = dOf b d1 d2
            · rw [c2, upd_same]; simp
            · rw [upd_ne c2, upd_ne c1]; exact e) (by rw [eg]; exact h1) fun r z => by rw [h2] at z; exact (n2 r).mp z
        rw [en] at this
        exact this
    · cases he
  · cases he
end
end S

/-! S9: expressions that want a token given out; text.replace -/
namespace S
open PySem L2 G
def wET (X : Cx) (e : Expr) : TE := fun σ H Q => ∀ pins s, 1 ≤ s.toks → Inv X pins σ H s → wpAny (model X.prog X.w) X.A (eval e X.env) (EP X pins σ Q) X.xe s
def SdET (Γ : Gam) (X : Cx) (e : Expr) (f : Ev Γ) : Prop := Gd Γ X → ∀ (σ : St) (env : Env Γ) (r : Sl Γ) (env' : Env Γ) (w : Wd) (Q : VK), f env = some (r, env') → ER Γ w σ env →
  (∀ v w' Fr, ER Γ w' σ env' → TR Γ w' v r Fr → Step w w' → Fresh w Fr → Q v w'.H) → wET X e σ w.H Q
def SdEu (Γ : Gam) (X : Cx) (e : Expr) (f : Ev Γ) : Prop := Gd Γ X → ∀ (σ : St) (env : Env Γ) (r : Sl Γ) (env' : Env Γ) (w : Wd) (Q : VK), f env = some (r, env') → ER Γ w σ env →
  (∀ v w' Fr, ER Γ w' σ env' → TR Γ w' v r Fr → Step w w' → Fresh w Fr → Q v w'.H) → ∀ pins s, Inv X pins σ w.H s → wpAny (model X.prog X.w) X.A (eval e X.env) (fun v s1 => 1 ≤ s1.toks ∧ EP X pins σ Q v s1) X.xe s
def SdSsT (Γ : Gam) (X : Cx) (A : List Nat) (st : List Stmt) (f : Es Γ) : Prop := Gd Γ X → ∀ (σ : St) (env : Env Γ) (fl : Fl Γ) (env' : Env Γ) (w : Wd) (D : Ends), f env = some (fl, env') → ER Γ w σ env → Post Γ A σ w D fl env' →
  ∀ pins s, 1 ≤ s.toks → Inv X pins σ w.H s → wpAny (model X.prog X.w) X.A (execs st X.env) (SP X pins D) X.xe s
def wLT (X : Cx) : List Expr → TA
  | [] => tNil
  | e :: es => tCons (wET X e) (wLT X es)
inductive SdLT (Γ : Gam) (X : Cx) : List Expr → List (AE Γ) → Prop
  | nil : SdLT Γ X [] []
  | cons {e : Expr} {es : List Expr} {f : Ev Γ} {as : List (AE Γ)} : SdET Γ X e f → NS X e → SdLT Γ X es as → SdLT Γ X (e :: es) (.ex f :: as)
section
variable {Γ : Gam} {X : Cx} {A : List Nat} {e a b : Expr} {es : List Expr} {as : List (AE Γ)} {f g : Ev Γ} {pos npos : Pos} {x : Str} {σ : St}
theorem sdT (h : SdE Γ X e f) : SdET Γ X e f := fun hK σ env r env' w Q he E k pins s _ I => h hK σ env r env' w Q he E k pins s I
theorem SdLT.ns : ∀ {es : List Expr} {as : List (AE Γ)}, SdLT Γ X es as → ∀ e ∈ es, NS X e
  | _, _, .nil, _, h => nomatch h
  | _, _, .cons _ n r, e, h => by
    rcases List.mem_cons.mp h with z | z
    · subst z; exact n
    · exact SdLT.ns r e z
theorem pat_wLT : ∀ {es : List Expr}, (∀ e ∈ es, NS X e) → PAT X es (wLT X es)
  | [], _ => pat_nil
  | e :: es, h => pat_cons (fun pins s σ H Q h0 I q => q pins s h0 I) (pat_wLT fun y hy => h y (List.mem_cons_of_mem _ hy)) (h e List.mem_cons_self es)
theorem sdl_runT (hK : Gd Γ X) : ∀ {es : List Expr} {as : List (AE Γ)} {xs : List (Ag Γ)} {env env' : Env Γ} {w : Wd} {Q : List V → Hp → Prop}, SdLT Γ X es as → evAs as env = some (xs, env') → ER Γ w σ env →
    (∀ vs w' Frs, ER Γ w' σ env' → ARs Γ w' σ vs xs Frs → Step w w' → (∀ G ∈ Frs, Fresh w G) → Q vs w'.H) → wLT X es σ w.H Q
  | _, _, _, _, _, w, _, .nil, he, E, k => by
    cases he
    exact k [] w [] E .nil (Step.refl w) (fun _ h => nomatch h)
  | _, _, _, env, _, w, Q, .cons (e := e) (es := es) (f := f) (as := as) h1 n h2, he, E, k => by
    unfold evAs at he
    cases g1 : f env with
    | none => simp only [evA, g1, Option.map_none] at he; cases he
    | some q =>
      obtain ⟨x, env1⟩ := q
      simp only [evA, g1, Option.map_some] at he
      cases g2 : evAs as env1 with
      | none => simp only [g2] at he; cases he
      | some q =>
        obtain ⟨xs1, env2⟩ := q
        simp only [g2, Option.map_some] at he
        cases he
        show wET X e σ w.H fun v H1 => wLT X es σ H1 fun vs H2 => Q (v :: vs) H2
        refine h1 hK σ env _ _ w _ g1 E fun v w1 Fr E1 T1 p1 f1 => ?_
        refine sdl_runT hK h2 g2 E1 fun vs w2 Frs E2 A2 p2 f2 => ?_
        have A1 : AR Γ w1 σ v (.val x) Fr := T1
        refine k (v :: vs) w2 (Fr :: Frs) E2 (.cons (A1.step E1 p2) (fun G hG z hz gz => ?_) A2) (p1.trans p2 E.dom) (fun G hG => ?_)
        · obtain ⟨q1, q2⟩ := A1.here E1 z hz
          rcases f2 G hG z gz with ⟨i, y⟩ | y
          · exact q2 i y
          · exact q1 y
        · rcases List.mem_cons.mp hG with z | z
          · subst z; exact f1
          · exact (f2 G z).back p1
theorem runNT {r : List V → Hp → VK → Prop} {p : List (Sl Γ) → Option (Sl Γ)} {s : Sl Γ} {env env' : Env Γ} {w : Wd} {Q : VK} (hp : PrimN Γ r p) (ha : SdLT Γ X es as) (hK : Gd Γ X) (he : mN p as env = some (s, env')) (E : ER Γ w σ env)
    (k : ∀ v w' Fr, ER Γ w' σ env' → TR Γ w' v s Fr → Step w w' → Fresh w Fr → Q v w'.H) : wLT X es σ w.H fun vs H1 => r vs H1 Q := by
  unfold mN at he
  cases g1 : evAs as env with
  | none => simp only [g1] at he; cases he
  | some q =>
    obtain ⟨xs, env1⟩ := q
    simp only [g1] at he
    cases g2 : peeks xs env1 with
    | none => simp only [g2] at he; cases he
    | some ss =>
      simp only [g2] at he
      cases g3 : p ss with
      | none => rw [g3] at he; cases he
      | some s1 =>
        rw [g3] at he
        cases he
        refine sdl_runT hK ha g1 E fun vs w1 Frs E1 A1 p1 f1 => ?_
        exact hp w1.M w1.H vs ss s Q E1.dom g3 (A1.peeks E1 g2) (res_of E1 fun v2 w2 Fr2 E2 T2 p2 f2 => k v2 w2 Fr2 E2 T2 (p1.trans p2 E.dom) (f2.back p1))
theorem sdT_lst (h : SdLT Γ X es as) : SdET Γ X (.List es pos) (mN pLstN as) := fun hK σ env r env' w Q he E k pins s h0 I => pet_lst (pat_wLT h.ns) pins s σ w.H Q h0 I (runNT pLstN_ok h hK he E k)
/-- name + e -/
theorem sdT_add {fa : AE Γ} (ha : SdA Γ X a fa) (hb : SdET Γ X b g) : SdET Γ X (.BinOp a .Add b pos) (m2 pAdd fa (.ex g)) := by
  intro hK σ env r env' w Q he E k
  unfold m2 at he
  cases g1 : evA fa env with
  | none => rw [g1] at he; cases he
  | some q =>
    obtain ⟨y1, env1⟩ := q
    simp only [g1] at he
    cases g2 : g env1 with
    | none => simp only [evA, g2, Option.map_none] at he; cases he
    | some q =>
      obtain ⟨sy, env2⟩ := q
      simp only [evA, g2, Option.map_some] at he
      cases g3 : peek y1 env2 with
      | none => simp only [g3] at he; cases he
      | some sx =>
        have g4 : peek (.val sy) env2 = some sy := rfl
        simp only [g3, g4] at he
        cases g5 : pAdd sx sy with
        | none => rw [g5] at he; cases he
        | some s1 =>
          rw [g5] at he
          cases he
          have hA : wE X a σ w.H fun u H1 => wET X b σ H1 fun y H2 => rAddAll Γ.K u y H2 Q := by
            refine sda_run ha hK g1 E fun v w1 Fr E1 A1 p1 f1 => ?_
            refine hb hK σ env1 _ _ w1 _ g2 E1 fun u w2 Fr2 E2 T2 p2 f2 => ?_
            obtain ⟨G1, r1⟩ := (A1.step E1 p2).peek E2 g3
            have p12 := p1.trans p2 E.dom
            exact pAdd_ok w2.M w2.H v u sx sy r G1 Fr2 Q E2.dom g5 r1 T2.rep (res_of E2 fun v3 w3 Fr3 E3 T3 p3 f3 => k v3 w3 Fr3 E3 T3 (p12.trans p3 E.dom) (f3.back p12))
          intro pins s h0 I
          refine wpAny_BinOp (wpAny_mono (wpAny_toks_of h0 (hA pins s I)) (fun v s1 ⟨tk, y, H1, I1, r1, q1⟩ => thn (q1 pins s1 tk I1) fun u s2 ⟨z, H2, I2, r2, q2⟩ => ?_) fun _ _ z => z.2)
          rw [hK.k] at q2
          exact op_addAll pins s2 σ H2 y z v u Q I2 r1 r2 q2
theorem sdssT_ret (h : SdET Γ X e f) : SdSsT Γ X A [.Return (some e) pos] (mRet f) := by
  intro hK σ env fl env' w D he E k pins s h0 I
  unfold mRet at he
  cases g1 : f env with
  | none => rw [g1] at he; cases he
  | some q =>
    rw [g1] at he
    cases he
    have hR : PST X (.Return (some e) pos) (tRet (wET X e)) := fun pins s σ H D h0 I h => wpAny_Return_some (thn (h pins s h0 I) fun v s1 ⟨y, H1, I1, r1, q1⟩ => ⟨y, σ, H1, I1, r1, q1⟩)
    refine psst_cons hR (PSsT.of pss_nil) pins s σ w.H D h0 I ?_
    exact h hK σ env _ _ w _ g1 E fun v w1 Fr E1 T1 p1 f1 => k v σ w1 Fr E1 T1 p1 f1 Agree.refl
/-- name + a written text: a token is out behind it -/
theorem sdu_addC {c : Str} {j : Nat} {cp : Pos} (i : Nat) (hN : X.N[i]? = some x := by rfl) (hv : Vis X.env.scope x := by first | exact Or.inl rfl | exact Or.inr (Or.inl rfl) | exact Or.inr (Or.inr rfl)) (hd : (x == ("__debug__" : Str)) = false := by decide) (hcd : (x == ("__classdict__" : Str)) = false := by decide) :
    SdEu Γ X (.BinOp (.Name x npos) .Add (.Constant (.str c) j cp) pos) (m2 pAdd (.brw i) (.ex (mC (.str c)))) := by
  intro hK σ env r env' w Q he E k pins s I
  unfold m2 at he
  cases g1 : got env[i]? with
  | none => simp only [evA, g1, Option.map_none] at he; cases he
  | some sx =>
    simp only [evA, g1, Option.map_some, mC, peek] at he
    cases g5 : pAdd sx (.dat (.str c)) with
    | none => rw [g5] at he; cases he
    | some s1 =>
      rw [g5] at he
      cases he
      obtain ⟨v, ev, rv⟩ := E.at g1
      refine wpAny_BinOp (thn ((pe_var hN hv hd hcd).run pins s σ w.H (fun z H1 => z = v ∧ H1 = w.H) I ⟨v, ev, rfl, rfl⟩) fun u s1 ⟨z, H1, I1, r1, e1, e2⟩ => ?_)
      subst e1 e2
      refine Calls.Constant_str ?_
      have q : rAddAll Γ.K z (.str c) w.H Q := pAdd_ok w.M w.H z (.str c) sx (.dat (.str c)) r _ (fun _ => False) Q E.dom g5 rv ⟨.str c, fun _ z => z⟩ (res_of E k)
      rw [hK.k] at q
      exact wpAny_mono (wpAny_toks_of (n := 1) (show 1 ≤ s1.toks + 1 by omega) (op_addAll pins _ σ w.H z (.str c) u _ Q (I1.tok _) r1 ⟨_, rfl⟩ q)) (fun _ _ z => z) fun _ _ z => z.2
/-- name = [e, ..], e gives out a token -/
theorem sdss_tok {rest : List Stmt} {h' : Es Γ} {pos' lpos : Pos} (i : Nat) (hA : i ∈ A) (hi : X.N[i]? = some x) (hx : Loc X.env.scope x) (h0 : SdEu Γ X e f) (n0 : NS X e) (hs : SdLT Γ X es as) (hr : SdSsT Γ X A rest h')
    (hsw : swapsWith (.List (e :: es) lpos) (some (.Name x pos')) pos.line X.env = pure false := by rfl) (hf : X.fn x = true ∨ X.env.scope.names.lookup x = some .local := by first | exact .inl rfl | exact .inr rfl) :
    SdSs Γ X A (.Assign [.Name x pos'] (.List (e :: es) lpos) pos :: rest) (mSeq (mSet i (mN pLstN (.ex f :: as))) h') := by
  intro hK σ env fl env' w D he E k pins s I
  unfold mSeq mSet mN at he
  cases g1 : f env with
  | none => simp only [evAs, evA, g1, Option.map_none] at he; cases he
  | some q =>
    obtain ⟨s0, env1⟩ := q
    simp only [evAs, evA, g1, Option.map_some] at he
    cases g2 : evAs as env1 with
    | none => simp only [g2, Option.map_none] at he; cases he
    | some q =>
      obtain ⟨xs, env2⟩ := q
      simp only [g2, Option.map_some] at he
      cases g3 : peeks (.val s0 :: xs) env2 with
      | none => simp only [g3] at he; cases he
      | some ss =>
        simp only [g3] at he
        cases g4 : pLstN ss with
        | none => simp only [g4, Option.map_none] at he; cases he
        | some sl =>
          simp only [g4, Option.map_some] at he
          split at he
          · rename_i o hm
            split at hm
            · rename_i hl
              cases hm
              -- the list
              have body : wpAny (model X.prog X.w) X.A (eval (.List (e :: es) lpos) X.env) (fun v s1 => 1 ≤ s1.toks ∧ EP X pins σ (fun v H1 => ∀ pins s, 1 ≤ s.toks → Inv X pins (σ.set i (some v)) H1 s → wpAny (model X.prog X.w) X.A (execs rest X.env) (SP X pins D) X.xe s) v s1) X.xe s := by
                refine wpAny_List_spliced ?_
                rw [n0 es]
                show wpAny _ _ (spliced ((false, eval e X.env) :: backTo lpos (starEach es X.env))) _ _ s
                refine Calls.spliced_cons (thn (h0 hK σ env _ _ w (fun v H1 => wLT X es σ H1 fun vs H2 => (v :: vs).length ≤ sizeLine ∧ ∀ p, H2 p = none → ∀ pins s, 1 ≤ s.toks → Inv X pins (σ.set i (some (.ref p))) (upd H2 p (.lst (v :: vs))) s → wpAny (model X.prog X.w) X.A (execs rest X.env) (SP X pins D) X.xe s) g1 E (fun v w1 Fr E1 T1 p1 f1 => ?_) pins s I) fun v s1 ⟨tk, y, H1, I1, r1, q1⟩ => ?_)
                · refine sdl_runT hK hs g2 E1 fun vs w2 Frs E2 A2 p2 f2 => ?_
                  have A1 : AR Γ w1 σ v (.val s0) Fr := T1
                  have AA : ARs Γ w2 σ (v :: vs) (.val s0 :: xs) (Fr :: Frs) := .cons (A1.step E1 p2) (fun G hG z hz gz => by
                    obtain ⟨q1, q2⟩ := A1.here E1 z hz
                    rcases f2 G hG z gz with ⟨j, y⟩ | y
                    · exact q2 j y
                    · exact q1 y) A2
                  have p12 := p1.trans p2 E.dom
                  exact pLstN_ok w2.M w2.H (v :: vs) ss sl (fun v3 H3 => ∀ pins s, 1 ≤ s.toks → Inv X pins (σ.set i (some v3)) H3 s → wpAny (model X.prog X.w) X.A (execs rest X.env) (SP X pins D) X.xe s) E2.dom g4 (AA.peeks E2 g3) (res_of E2 fun v3 w3 Fr3 E3 T3 p3 f3 => by
                    have p13 := p12.trans p3 E.dom
                    exact hr hK _ _ fl env' ⟨w3.M, fun j a => if j = i then Fr3 a else w3.F j a, w3.H⟩ D he (E3.set T3 hl) (k.step E.dom (p13.set (f3.back p12)) (Agree.set hA)))
                · refine wpAny_mono (wpAny_toks_of tk (pat_wLT hs.ns lpos pins s1 σ H1 _ tk I1 q1)) (fun us s2 ⟨tk2, vs, H2, I2, r2, z, q2⟩ => ⟨by rw [List.length_cons, ← r2.length]; exact z, ?_⟩) fun _ _ z => z.2
                  refine ⟨tk2, .ref s2.heap.objs.size, upd H2 s2.heap.objs.size (.lst (y :: vs)), I2.laid (t' := s2.toks) (fun b u e => Heap.get?_push_of_some _ e) (Nat.le_refl _) ?_, rfl, q2 _ (I2.hok.fresh (Nat.le_refl _))⟩
                  exact ⟨z, v :: us, 0, .cons r1 r2, Heap.get?_push_size _ rfl⟩
              refine wpAny_execs_cons (wpAny_Assign_Name (thn body fun v s1 ⟨tk, y, H1, I1, r1, q1⟩ => ?_) hsw)
              exact wpAny_mono (PySem.wpAny_toks (store_ok (Q := fun _ s2 => Inv X pins (σ.set i (some y)) H1 s2) I1 hK.nd hi hx r1 (fun _ I2 => I2) hf)) (fun _ s2 q => q1 pins s2 (Nat.le_trans tk q.1) q.2) fun _ _ z => z.2
            · cases hm
          · rename_i hno
            cases hl : decide (i < env2.length) with
            | true => exact absurd (by rw [if_pos (of_decide_eq_true hl)]) (hno _)
            | false => rw [if_neg (of_decide_eq_false hl)] at he; cases he
/-- x.replace(y, z) -/
def mRepl (i : Nat) (y z : Str) : Ev Γ := fun env => match env[i]? with | some (.dat (.str s)) => if s.length + (s.length + 1) * z.length ≤ 16777216 then some (.dat (.str (Txt.replace s y z)), env) else none | _ => none
theorem sdT_repl {y z : Str} {j1 j2 : Nat} {p1 apos c1 c2 : Pos} (i : Nat) (hyz : (y == z) = false) (hN : X.N[i]? = some x := by rfl) (hv : Vis X.env.scope x := by first | exact Or.inl rfl | exact Or.inr (Or.inl rfl) | exact Or.inr (Or.inr rfl)) (hd : (x == ("__debug__" : Str)) = false := by decide) (hcd : (x == ("__classdict__" : Str)) = false := by decide)
    (hst : starEach [.Constant (.str y) j1 c1, .Constant (.str z) j2 c2] X.env = [(false, eval (.Constant (.str y) j1 c1) X.env), (false, eval (.Constant (.str z) j2 c2) X.env)] := by rfl)
    (hbase : attributeBase (.Name x p1) "replace" X.env (eval (.Name x p1) X.env) = eval (.Name x p1) X.env := by rfl) (hline : (apos.endLine == pos.line) = true := by rfl) :
    SdET Γ X (.Call (.Attribute (.Name x p1) "replace" apos) [.Constant (.str y) j1 c1, .Constant (.str z) j2 c2] [] pos) (mRepl i y z) := by
  intro hK σ env r env' w Q he E k pins s h0 I
  unfold mRepl at he
  split at he
  · rename_i s0 g
    split at he
    · rename_i hb
      cases he
      obtain ⟨v, ev, rv, _⟩ := E.at (i := i) (s := .dat (.str s0)) (by rw [g]; rfl)
      cases rv
      refine PySem.Call_method2 hbase hst hline (raw_name hN hv I ev (fun v r => ?_) hd hcd)
      obtain ⟨tx, e⟩ := r
      subst e
      refine ⟨"str", _, F.plainAttrs_str, F.slot_str_replace, F.type_str_replace, typeIs_str _ _ _, (fun _ e => nomatch e), Calls.callWith_builtin rfl (Calls.evalArgs_plain (Calls.spliced_cons (Calls.Constant_str ?_)))⟩
      refine Calls.spliced_cons (Calls.Constant_str (Calls.spliced_nil ?_))
      exact PySem.SC.replace (show s.toks ≠ 0 by omega) (show s.toks + 1 ≠ 0 by omega) (show s.toks ≠ s.toks + 1 by omega) hyz hb fun t' n => ⟨.str (Txt.replace s0 y z), w.H, I.tok n, ⟨t', rfl⟩, k _ w (fun _ => False) E (TR.dat (.str _)) (Step.refl w) fun _ z => z.elim⟩
    · cases he
  · cases he
end
end S

/-! S10: C(xs) -/
namespace S
open PySem L2 G
def toOb : List (Str × Fd) → Option Sd
  | [(a, .dat (.tup ds)), (b, .dic []), (c, .dic [])] => if a = "order" ∧ b = "given" ∧ c = "stamped" then (allStr ds).map fun ss => ⟨ss, [], []⟩ else none
  | _ => none
section
variable {K : PySem.W.Frag} {C : Addr}
theorem sr_ob {M : Addr → Prop} {H : Hp} {v : V} {fs : List (Str × Fd)} {Fr : Addr → Prop} {o : Sd} (h : SR (gam K C) M H v (.ins 0 fs) Fr) (e : toOb fs = some o) : SR (gam K C) M H v (.obj (false, o)) Fr := by
  obtain ⟨a, C', ns, dx, vs, G, rfl, hC, hA, rs, nG, hFr⟩ := h
  cases hC
  unfold toOb at e
  split at e
  · rename_i n1 ds n2 n3
    split at e
    · rename_i hn
      obtain ⟨rfl, rfl, rfl⟩ := hn
      cases g : allStr ds with
      | none => rw [g] at e; cases e
      | some ss =>
        rw [g] at e
        cases e
        cases rs with
        | cons r1 rs dis1 ge1 =>
          cases rs with
          | cons r2 rs dis2 ge2 =>
            cases rs with
            | cons r3 rs dis3 ge3 =>
              cases rs with
              | nil gn =>
                obtain ⟨r1, r1n⟩ := r1
                obtain ⟨p2, vs2, rfl, h2, k2, e2⟩ := r2
                obtain ⟨p3, vs3, rfl, h3, k3, e3⟩ := r3
                cases k2
                cases k3
                cases r1 with
                | tup ht hd =>
                  have ev := allStr_ok hd g
                  subst ev
                  have c2 : G p2 := (ge1 p2).mpr (.inr ((ge2 p2).mpr (.inl ((e2 p2).mpr rfl))))
                  have c3 : G p3 := (ge1 p3).mpr (.inr ((ge2 p3).mpr (.inr ((ge3 p3).mpr (.inl ((e3 p3).mpr rfl))))))
                  have n23 : p2 ≠ p3 := fun z => dis2 p2 ((e2 p2).mpr rfl) ((ge3 p2).mpr (.inl ((e3 p2).mpr z)))
                  refine ⟨a, _, p2, p3, dx, [], [], rfl, ⟨hA, ht, h2, h3, .nil, .nil, ?_⟩, .inl ⟨rfl, fun b => ?_⟩⟩
                  · simp only [List.append_nil, List.nodup_cons, List.mem_cons, List.not_mem_nil, or_false, not_or]
                    exact ⟨⟨fun z => nG (z ▸ c2), fun z => nG (z ▸ c3)⟩, n23, fun z => z, List.nodup_nil⟩
                  · rw [hFr b]
                    unfold own
                    simp only [List.append_nil, List.mem_cons, List.not_mem_nil, or_false]
                    constructor
                    · rintro (z | z)
                      · exact .inl z
                      · rcases (ge1 b).mp z with y | y
                        · exact absurd y (r1n b)
                        · rcases (ge2 b).mp y with q | q
                          · exact .inr (.inl ((e2 b).mp q))
                          · rcases (ge3 b).mp q with q | q
                            · exact .inr (.inr ((e3 b).mp q))
                            · exact absurd q (gn b)
                    · rintro (z | z | z)
                      · exact .inl z
                      · rw [z]; exact .inr c2
                      · rw [z]; exact .inr c3
    · cases e
  · cases e
variable {X : Cx} {A : List Nat} {σ : St} {env env' : Env (gam K C)} {w : Wd} {e : Expr} {es : List Expr} {pos p : Pos} {g : Fn (gam K C)} {as : List (AE (gam K C))} {x : Str}
def mMakeO (g : Fn (gam K C)) (as : List (AE (gam K C))) : Ev (gam K C) := fun env =>
  match mMake 0 2 g as env with
  | some (.ins 0 fs, env') => (toOb fs).map fun o => (.obj (false, o), env')
  | _ => none
structure MkO (K : PySem.W.Frag) (C : Addr) (X : Cx) (x : Str) (g : Fn (gam K C)) : Prop where
  ex : ∃ k f fd ps, Mk X.K C f ∧ FnOk X.prog X.w X.K X.mg X.base CX0 k f fd ps (spG (gam K C) 2 g) ∧ Room (k + 1) X.A ∧ X.mg x = some (.ref C) ∧ Binds X.K fd ps []
theorem sd_makeO (h : MkO K C X x g) (hg : Gl X x) (ha : SdL (gam K C) X (e :: es) as) (hdb : (x == ("__debug__" : Str)) = false := by decide) (hpl : (backTo pos (starEach es X.env)).any (·.1) = false := by rfl) : SdE (gam K C) X (.Call (.Name x p) (e :: es) [] pos) (mMakeO g as) := by
  obtain ⟨k0, f, fd, ps, h2, h3, h4, h5, h6⟩ := h
  intro hK σ env r env' w Q he E k
  refine wE.of (pe_make (E := E0) h2 h3 h4 hg h5 h6 .nil pass0 (pa_wL ha.ns) hdb (ha.ns e List.mem_cons_self es) hpl) ?_
  unfold mMakeO at he
  split at he
  · rename_i fs env1 g1
    cases g2 : toOb fs with
    | none => rw [g2] at he; cases he
    | some o =>
      rw [g2] at he
      cases he
      have q := make_run (E0 := E0) (c := 0) (C := C) hK rfl ha g1 E (Q := Q) fun v w' Fr E' T' p' f' => k v w' Fr E' ⟨sr_ob T'.rep g2, T'.sub, T'.off⟩ p' f'
      refine wL_imp q fun vs H1 z x dx h1 h2 h3 => ?_
      have := z x dx h1 h2 h3
      rw [List.append_nil]
      exact this
  · cases he
end
end S

/-! S11: a, b, c = x, y, z; what a def leans on -/
namespace S
open PySem L2 G
def mPar3 {Γ : Gam} (i j l : Nat) (fa fb fc : Ev Γ) : Es Γ := fun env =>
  match fa env with
  | none => none
  | some (s, env1) => match fb env1 with
    | none => none
    | some (t, env2) => match fc env2 with
      | none => none
      | some (u, env3) => if i < env3.length ∧ j < env3.length ∧ l < env3.length then some (.nx, ((env3.set i s).set j t).set l u) else none
section
variable {Γ : Gam} {X : Cx} {A : List Nat} {a b c : Expr} {pos : Pos}
theorem sds_par3 {i j l : Nat} {x y z : Str} {fa fb fc : Ev Γ} {px py pz pt : Pos} {kt k2 pt2} (hAi : i ∈ A) (hAj : j ∈ A) (hAl : l ∈ A) (hi : X.N[i]? = some x) (hj : X.N[j]? = some y) (hl : X.N[l]? = some z) (hij : i ≠ j) (hil : i ≠ l) (hjl : j ≠ l)
    (hx : X.env.scope.names.lookup x = some .local) (hy : X.env.scope.names.lookup y = some .local) (hz : X.env.scope.names.lookup z = some .local) (ha : SdE Γ X a fa) (na : NS X a) (hb : SdE Γ X b fb) (nb : NS X b) (hc : SdE Γ X c fc) (nc : NS X c)
    (hw : swappedStores [.Tuple [.Name x px, .Name y py, .Name z pz] kt pt] (.Tuple [a, b, c] k2 pt2) X.env = pure (some [x, y, z]))
    (hs : swapsWithSole [.Tuple [.Name x px, .Name y py, .Name z pz] kt pt] (.Tuple [a, b, c] k2 pt2) pos.line X.env = pure false := by rfl) :
    SdS Γ X A (.Assign [.Tuple [.Name x px, .Name y py, .Name z pz] kt pt] (.Tuple [a, b, c] k2 pt2) pos) (mPar3 i j l fa fb fc) := by
  intro hK σ env fl env' w D he E k
  refine wS.of (ps_par3 hK.calm hK.nd hi hj hl hij hil hjl hx hy hz (pa_wL (es := [a, b, c]) fun e h => by
    rcases List.mem_cons.mp h with q | q
    · rw [q]; exact na
    · rcases List.mem_cons.mp q with q | q
      · rw [q]; exact nb
      · rw [List.mem_singleton.mp q]; exact nc) hw hs) ?_
  unfold mPar3 at he
  cases g1 : fa env with
  | none => simp only [g1] at he; cases he
  | some q =>
    obtain ⟨s, env1⟩ := q
    simp only [g1] at he
    cases g2 : fb env1 with
    | none => simp only [g2] at he; cases he
    | some q =>
      obtain ⟨t, env2⟩ := q
      simp only [g2] at he
      cases g3 : fc env2 with
      | none => simp only [g3] at he; cases he
      | some q =>
        obtain ⟨u, env3⟩ := q
        simp only [g3] at he
        split at he
        · rename_i hll
          cases he
          refine ha hK σ env _ _ w _ g1 E fun v1 w1 F1 E1 T1 p1 f1 => ?_
          refine hb hK σ env1 _ _ w1 _ g2 E1 fun v2 w2 F2 E2 T2 p2 f2 => ?_
          refine hc hK σ env2 _ _ w2 _ g3 E2 fun v3 w3 F3 E3 T3 p3 f3 => ?_
          refine ⟨v1, v2, v3, rfl, ?_⟩
          have d12 : ∀ q, F1 q → ¬ F2 q := fun q y1 y2 => by
            rcases f2 q y2 with ⟨r, y⟩ | y
            · exact T1.off q r y1 y
            · exact E1.dom q (T1.sub q y1) y
          have T1a := TR.step E1 T1 p2
          have d13 : ∀ q, F1 q → ¬ F3 q := fun q y1 y2 => by
            rcases f3 q y2 with ⟨r, y⟩ | y
            · exact T1a.off q r y1 y
            · exact E2.dom q (T1a.sub q y1) y
          have d23 : ∀ q, F2 q → ¬ F3 q := fun q y1 y2 => by
            rcases f3 q y2 with ⟨r, y⟩ | y
            · exact T2.off q r y1 y
            · exact E2.dom q (T2.sub q y1) y
          have T1b := TR.step E2 T1a p3
          have T2b := TR.step E2 T2 p3
          have p12 := p1.trans p2 E.dom
          have p13 := p12.trans p3 E.dom
          have E4 := E3.set T1b hll.1
          have T2c : TR Γ ⟨w3.M, fun m q => if m = i then F1 q else w3.F m q, w3.H⟩ v2 t F2 := ⟨T2b.rep, T2b.sub, fun q m y1 y2 => by
            have y3 : (if m = i then F1 q else w3.F m q) := y2
            split at y3
            · exact d12 q y3 y1
            · exact T2b.off q m y1 y3⟩
          have E5 := E4.set T2c (i := j) (by rw [List.length_set]; exact hll.2.1)
          have T3c : TR Γ ⟨w3.M, fun m q => if m = j then F2 q else if m = i then F1 q else w3.F m q, w3.H⟩ v3 u F3 := ⟨T3.rep, T3.sub, fun q m y1 y2 => by
            have y3 : (if m = j then F2 q else if m = i then F1 q else w3.F m q) := y2
            split at y3
            · exact d23 q y3 y1
            · split at y3
              · exact d13 q y3 y1
              · exact T3.off q m y1 y3⟩
          have E6 := E5.set T3c (i := l) (by rw [List.length_set, List.length_set]; exact hll.2.2)
          exact k _ ⟨w3.M, fun m q => if m = l then F3 q else if m = j then F2 q else if m = i then F1 q else w3.F m q, w3.H⟩ E6 (((p13.set f1).set (f2.back p1)).set (f3.back p12)) (((Agree.set hAi).trans (Agree.set hAj)).trans (Agree.set hAl))
        · cases he
end
section
variable (K : PySem.W.Frag) (C : Addr) (P : Program) (w : World) (mg : Str → Option Value) (base : Heap)
structure MOC (m : Str) (np : Nat) (g : Fn (gam K C)) (dvs : List V) (k : Nat) : Prop where
  ex : ∃ f fd ps ds, Cls K C ∧ Meth K C m f ∧ FnOk P w K mg base CX0 k f fd ps (spG (gam K C) np g) ∧ Binds K fd ps ds ∧ Vals dvs ds
structure KOC (m : Str) (np : Nat) (g : Fn (gam K C)) (ks : List Str) (n1 k : Nat) : Prop where
  ex : ∃ f fd ps, Cls K C ∧ Meth K C m f ∧ FnOk P w K mg base CX0 k f fd ps (spG (gam K C) np g) ∧ KB K fd ps ks n1
structure SOC (m : Str) (np : Nat) (g : Fn (gam K C)) (k : Nat) : Prop where
  ex : ∃ f fd ps, PySem.W.findIn K (.ref C) m = some (some (.ref f)) ∧ PySem.W.isFn K (.ref f) = true ∧ FnOk P w K mg base CX0 k f fd ps (spG (gam K C) np g) ∧ Binds K fd ps []
structure VOC (x : Str) (g : Fn (gam K C)) (k : Nat) : Prop where
  ex : ∃ f fd ps, Mk K C f ∧ FnOk P w K mg base CX0 k f fd ps (spG (gam K C) 2 g) ∧ mg x = some (.ref C) ∧ Binds K fd ps []
end
section
variable {K : PySem.W.Frag} {C : Addr} {X : Cx} {m x : Str} {np k j n1 : Nat} {g : Fn (gam K C)} {dvs : List V} {ks : List Str}
theorem MOC.mf (hK : K = X.K) (h : MOC K C X.prog X.w X.mg X.base m np g dvs k) (hr : Room j X.A) (l : k ≤ j) : MfO K C X m np g dvs := by
  obtain ⟨f, fd, ps, ds, h1, h2, h3, h4, h5⟩ := h
  exact ⟨k, f, fd, ps, ds, hK ▸ h1, hK ▸ h2, hK ▸ h3, hr.mono l, hK ▸ h4, h5⟩
theorem KOC.mf (hK : K = X.K) (h : KOC K C X.prog X.w X.mg X.base m np g ks n1 k) (hr : Room j X.A) (l : k ≤ j) : MfKO K C X m np g ks n1 := by
  obtain ⟨f, fd, ps, h1, h2, h3, h4⟩ := h
  exact ⟨k, f, fd, ps, hK ▸ h1, hK ▸ h2, hK ▸ h3, hr.mono l, hK ▸ h4⟩
theorem SOC.sf (hK : K = X.K) (h : SOC K C X.prog X.w X.mg X.base m np g k) (hr : Room j X.A) (l : k + 1 ≤ j) : SfO K C X m np g := by
  obtain ⟨f, fd, ps, h1, h2, h3, h4⟩ := h
  exact ⟨k, f, fd, ps, hK ▸ h1, hK ▸ h2, hK ▸ h3, hr.mono l, hK ▸ h4⟩
theorem VOC.v (hK : K = X.K) (h : VOC K C X.prog X.w X.mg X.base x g k) (hr : Room j X.A) (l : k + 1 ≤ j) : MkO K C X x g := by
  obtain ⟨f, fd, ps, h1, h2, h3, h4⟩ := h
  exact ⟨k, f, fd, ps, hK ▸ h1, hK ▸ h2, hr.mono l, h3, hK ▸ h4⟩
end
end S

/-! S12: a list lent to a def that only reads it -/
namespace S
open PySem L2 G
def noL : G.D → Bool
  | .tup ds => ds.all flat
  | d => flat d
section
variable {K : PySem.W.Frag} {C : Addr} {M : Addr → Prop} {H : Hp} {v : V} {p : Addr} {us : List V}
theorem dat_add {d : G.D} (h : Dat (gam K C) M H v d) (n : noL d = true) (hp : H p = some (.lst us)) : Dat (gam K C) (fun q => M q ∨ q = p) H v d := by
  cases h with
  | non => exact .non
  | bl b => exact .bl b
  | int i => exact .int i
  | str x => exact .str x
  | tup ht hd =>
    refine .tup ?_ (flat_dats hd n)
    rcases ht with ⟨n, hR⟩ | hK
    · refine .inl ⟨fun z => z.elim n fun e => ?_, hR⟩
      subst e
      rcases hR with y | ⟨o, y⟩
      · rw [y] at hp; cases hp
      · rw [y] at hp; cases hp
    · exact .inr hK
  | lst _ _ _ => cases n
  | ins _ _ _ _ _ => cases n
theorem dats_add : ∀ {vs : List V} {ds : List G.D}, Dats (gam K C) M H vs ds → ds.all noL = true → H p = some (.lst us) → Dats (gam K C) (fun q => M q ∨ q = p) H vs ds
  | _, _, .nil, _, _ => .nil
  | _, _, .cons h r, n, hp => by
    rw [List.all_cons, Bool.and_eq_true] at n
    exact .cons (dat_add h n.1 hp) (dats_add r n.2 hp)
/-- what a slot may hold behind it -/
def okL : Sl (gam K C) → Sl (gam K C) → Bool
  | .none, _ => false
  | .lst _, .dat (.lst ds) => ds.all noL
  | .dat (.lst _), .dat (.lst ds) => ds.all noL
  | _, .dat d => noL d
  | _, .lst ds => ds.all noL
  | _, .obj (b, _) => !b
  | _, _ => false
theorem okL_sr {s s' : Sl (gam K C)} {M0 : Addr → Prop} {H0 : Hp} {F0 Fr : Addr → Prop} (ok : okL s s' = true) (h : SR (gam K C) M H v s' Fr) (hp : H p = some (.lst us)) (h0 : SR (gam K C) M0 H0 v s F0) (m0 : M0 p) (n0 : ¬ F0 p) : SR (gam K C) (fun q => M q ∨ q = p) H v s' Fr := by
  cases s' with
  | dat d =>
    obtain ⟨h1, h2⟩ := h
    have key : (∀ ds, d = .lst ds → (∃ q, v = .ref q ∧ q ≠ p) ∧ ds.all noL = true) → ((∀ ds, d ≠ .lst ds) → noL d = true) → Dat (gam K C) (fun q => M q ∨ q = p) H v d := fun k1 k2 => by
      cases d with
      | lst ds =>
        obtain ⟨⟨q, rfl, hq⟩, nn⟩ := k1 ds rfl
        cases h1 with
        | lst a b c => exact .lst (fun z => z.elim a hq) b (dats_add c nn hp)
      | _ => exact dat_add h1 (k2 fun ds z => by cases z) hp
    refine ⟨key (fun ds e => ?_) (fun ne => ?_), h2⟩
    · subst e
      cases s with
      | lst ds0 =>
        obtain ⟨q, ws, rfl, hq, _, hF⟩ := h0
        exact ⟨⟨q, rfl, fun z => n0 ((hF p).mpr z.symm)⟩, ok⟩
      | dat d0 =>
        cases d0 with
        | lst ds0 =>
          obtain ⟨h0, _⟩ := h0
          cases h0 with
          | lst a b c => exact ⟨⟨_, rfl, fun z => a (z ▸ m0)⟩, ok⟩
        | _ => cases ok
      | _ => cases ok
    · cases d with
      | lst ds => exact absurd rfl (ne ds)
      | _ =>
        cases s with
        | dat d0 => cases d0 <;> exact ok
        | none => cases ok
        | _ => exact ok
  | lst ds =>
    obtain ⟨q, ws, rfl, hq, hd, hF⟩ := h
    have n : ds.all noL = true := by
      cases s with
      | dat d0 => cases d0 <;> exact ok
      | none => cases ok
      | _ => exact ok
    exact ⟨q, ws, rfl, hq, dats_add hd n hp, hF⟩
  | obj o =>
    obtain ⟨fz, o⟩ := o
    have n : fz = false := by
      have : (!fz) = true := by
        cases s with
        | dat d0 => cases d0 <;> exact ok
        | none => cases ok
        | _ => exact ok
      cases fz with
      | false => rfl
      | true => cases this
    subst n
    obtain ⟨a, t, d1, d2, dx, ps1, ps2, rfl, hA, hF⟩ := h
    refine ⟨a, t, d1, d2, dx, ps1, ps2, rfl, ⟨hA.hA, ?_, hA.h1, hA.h2, hA.r1, hA.r2, hA.nd⟩, ?_⟩
    · rcases hA.hT with ⟨n, hR⟩ | hK
      · refine .inl ⟨fun z => z.elim n fun e => ?_, hR⟩
        subst e
        rcases hR with y | ⟨o, y⟩
        · rw [y] at hp; cases hp
        · rw [y] at hp; cases hp
      · exact .inr hK
    · rcases hF with z | z
      · exact .inl z
      · cases z.1
  | none => cases s with | dat d0 => cases d0 <;> cases ok | _ => cases ok
  | scr _ => cases s with | dat d0 => cases d0 <;> cases ok | _ => cases ok
  | dic _ => cases s with | dat d0 => cases d0 <;> cases ok | _ => cases ok
  | ins _ _ => cases s with | dat d0 => cases d0 <;> cases ok | _ => cases ok
def okLs : List (Sl (gam K C)) → List (Sl (gam K C)) → Bool
  | [], [] => true
  | s :: ss, t :: ts => okL s t && okLs ss ts
  | _, _ => false
theorem okLs_get : ∀ {ss ts : List (Sl (gam K C))} {i : Nat} {t : Sl (gam K C)}, okLs ss ts = true → ts[i]? = some t → ∃ s, ss[i]? = some s ∧ okL s t = true
  | [], [], _, _, _, e => by simp at e
  | s :: ss, t :: ts, 0, _, h, e => by
    unfold okLs at h
    rw [Bool.and_eq_true] at h
    simp at e
    subst e
    exact ⟨s, rfl, h.1⟩
  | s :: ss, t :: ts, i + 1, _, h, e => by
    unfold okLs at h
    rw [Bool.and_eq_true] at h
    obtain ⟨s', h1, h2⟩ := okLs_get (i := i) h.2 (by simpa using e)
    exact ⟨s', by simpa using h1, h2⟩
  | [], _ :: _, _, _, h, _ => by cases h
  | _ :: _, [], _, _, h, _ => by cases h
theorem okLs_len : ∀ {ss ts : List (Sl (gam K C))}, okLs ss ts = true → ts.length = ss.length
  | [], [], _ => rfl
  | s :: ss, t :: ts, h => by
    unfold okLs at h
    rw [Bool.and_eq_true] at h
    rw [List.length_cons, List.length_cons, okLs_len h.2]
  | [], _ :: _, h => by cases h
  | _ :: _, [], h => by cases h
/-- the list at j is only read -/
def lend (j : Nat) (g : Fn (gam K C)) : Fn (gam K C) := fun args =>
  match args[j]? with
  | some (.lst ds) => match g (args.set j (.dat (.lst ds))) with
    | some (r, args') => if okRes r = true ∧ okLs args args' = true then some (r, args'.set j (.lst ds)) else none
    | none => none
  | _ => none
theorem lend_sp {np j : Nat} {g : Fn (gam K C)} {vs : List V} {H : Hp} {Q : VK} {E : XK} (h : spG (gam K C) np (lend j g) vs H Q E) : spG (gam K C) np g vs H Q E := by
  obtain ⟨args, r, args', w, hg, hl, rfl, Er, k⟩ := h
  unfold lend at hg
  split at hg
  · rename_i ds gj
    split at hg
    · rename_i r1 args1 g1
      split at hg
      · rename_i ok
        cases hg
        have jl : j < args.length := (List.getElem?_eq_some_iff.mp gj).1
        obtain ⟨v0, ev, p, us, rfl, hp, hd, hF⟩ := Er.at (i := j) (s := .lst ds) (by rw [gj]; rfl)
        have fp : w.F j p := (hF p).mpr rfl
        have mp : w.M p := Er.sub j p fp
        have go0 : Go w.M w.H (fun q => w.M q ∧ q ≠ p) w.H := ⟨fun _ _ _ e => e, fun _ n _ z => n z.1⟩
        have E0 : ER (gam K C) ⟨fun q => w.M q ∧ q ≠ p, fun i q => i ≠ j ∧ w.F i q, w.H⟩ (vs.map some) (args.set j (.dat (.lst ds))) := by
          refine ⟨by rw [List.length_set]; exact Er.len, fun i s e => ?_, fun i q f => ⟨Er.sub i q f.2, fun z => f.1 (Er.dis i j q f.2 (z ▸ fp))⟩, fun i l q f f' => Er.dis i l q f.2 f'.2, fun q m => Er.dom q m.1, fun i hi q f => Er.out i (by rw [List.length_set] at hi; exact hi) q f.2⟩
          by_cases c : i = j
          · subst c
            rw [List.getElem?_set_self jl] at e
            cases e
            exact .inr ⟨_, ev, .lst (fun z => z.2 rfl) hp (hd.go go0), fun q z => z.1 rfl⟩
          · rw [List.getElem?_set_ne (Ne.symm c)] at e
            have eF : (fun q => i ≠ j ∧ w.F i q) = w.F i := funext fun q => propext ⟨fun z => z.2, fun z => ⟨c, z⟩⟩
            rcases Er.slot i s e with ⟨z1, z2⟩ | ⟨v, e1, rv⟩
            · exact .inl ⟨z1, fun q z => z2 q z.2⟩
            · refine .inr ⟨v, e1, ?_⟩
              show SR (gam K C) (fun q => w.M q ∧ q ≠ p) w.H v s (fun q => i ≠ j ∧ w.F i q)
              rw [eF]
              exact rv.go go0 fun _ _ _ e => e
        refine ⟨_, _, _, ⟨fun q => w.M q ∧ q ≠ p, fun i q => i ≠ j ∧ w.F i q, w.H⟩, g1, by rw [List.length_set]; exact hl, rfl, E0, fun v w' Fr E' T' p' f' => ?_⟩
        have hp' : w'.H p = some (.lst us) := p'.keep p _ (fun i z => z.1 (Er.dis i j p z.2 fp)) hp
        have np' : ¬ w'.M p := fun z => by
          rcases p'.src p z with y | y
          · exact y.2 rfl
          · have y' : w.H p = none := y
            rw [hp] at y'; cases y'
        have go1 : Go w.M w.H (fun q => w'.M q ∨ q = p) w'.H := ⟨fun q u n e => p'.keep q u (fun i z => n (Er.sub i q z.2)) e, fun q n e z => by
          rcases z with z | z
          · rcases p'.src q z with y | y
            · exact n y.1
            · exact e y
          · exact n (z ▸ mp)⟩
        have ll := okLs_len ok.2
        refine k v ⟨fun q => w'.M q ∨ q = p, fun i q => if i = j then q = p else w'.F i q, w'.H⟩ Fr ?_ ?_ ⟨fun q u n e => p'.keep q u (fun i z => n i z.2) e, fun q n m => ?_, fun q m => ?_, fun i q z => ?_, p'.live⟩ fun q f => ?_
        · refine ⟨by rw [List.length_set]; exact E'.len, fun i s e => ?_, fun i q z => ?_, fun i l q z z' => ?_, fun q m => ?_, fun i hi q z => ?_⟩
          · by_cases c : i = j
            · subst c
              rw [List.getElem?_set_self (by rw [ll]; exact jl)] at e
              cases e
              refine .inr ⟨_, ev, p, us, rfl, hp', hd.go go1, fun q => ?_⟩
              show (if i = i then q = p else w'.F i q) ↔ q = p
              rw [if_pos rfl]
            · rw [List.getElem?_set_ne (Ne.symm c)] at e
              obtain ⟨s0, e0, o0⟩ := okLs_get ok.2 e
              have eF : (fun q => if i = j then q = p else w'.F i q) = w'.F i := funext fun q => if_neg c
              rcases E'.slot i s e with ⟨z1, z2⟩ | ⟨u, e1, rv⟩
              · subst z1
                cases s0 with
                | dat d0 => cases d0 <;> cases o0
                | _ => cases o0
              · rcases Er.slot i s0 e0 with ⟨z1, _⟩ | ⟨u0, e2, rv0⟩
                · subst z1
                  cases o0
                · rw [e1] at e2
                  cases e2
                  refine .inr ⟨u, e1, ?_⟩
                  show SR (gam K C) (fun q => w'.M q ∨ q = p) w'.H u s (fun q => if i = j then q = p else w'.F i q)
                  rw [eF]
                  exact okL_sr o0 rv hp' rv0 mp fun z => c (Er.dis i j p z fp)
          · have z' : (if i = j then q = p else w'.F i q) := z
            split at z'
            · exact .inr z'
            · exact .inl (E'.sub i q z')
          · have z1 : (if i = j then q = p else w'.F i q) := z
            have z2 : (if l = j then q = p else w'.F l q) := z'
            split at z1
            · rename_i c1
              split at z2
              · rename_i c2; rw [c1, c2]
              · exact absurd (E'.sub l q z2) (z1 ▸ np')
            · split at z2
              · exact absurd (E'.sub i q z1) (z2 ▸ np')
              · exact E'.dis i l q z1 z2
          · rcases m with m | m
            · exact E'.dom q m
            · rw [m, hp']; simp
          · rw [List.length_set, ll] at hi
            have z1 : (if i = j then q = p else w'.F i q) := z
            rw [if_neg (by omega)] at z1
            exact E'.out i (by rw [ll]; exact hi) q z1
        · refine ⟨?_, fun q f => .inl (T'.sub q f), fun q i f z => ?_⟩
          · have rep := T'.rep
            have okr := ok.1
            cases r with
            | dat d =>
              cases d with
              | tup ds1 => exact ⟨dat_add rep.1 okr hp', rep.2⟩
              | non => exact ⟨flat_dat rep.1 rfl, rep.2⟩
              | bl b => exact ⟨flat_dat rep.1 rfl, rep.2⟩
              | int b => exact ⟨flat_dat rep.1 rfl, rep.2⟩
              | str b => exact ⟨flat_dat rep.1 rfl, rep.2⟩
              | lst _ => cases okr
              | ins _ _ => cases okr
            | lst ds1 =>
              obtain ⟨q, ws, e1, e2, hd1, hf⟩ := rep
              exact ⟨q, ws, e1, e2, flat_dats hd1 okr, hf⟩
            | none => cases okr
            | scr _ => cases okr
            | dic _ => cases okr
            | ins _ _ => cases okr
            | obj _ => cases okr
          · have z1 : (if i = j then q = p else w'.F i q) := z
            split at z1
            · exact np' (z1 ▸ T'.sub q f)
            · exact T'.off q i f z1
        · by_cases c : q = p
          · exact .inr c
          · exact .inl (p'.mu q (fun i z => n i z.2) ⟨m, c⟩)
        · rcases m with m | m
          · exact (p'.src q m).imp (·.1) id
          · exact .inl (m ▸ mp)
        · have z1 : (if i = j then q = p else w'.F i q) := z
          split at z1
          · exact .inl ⟨j, z1 ▸ fp⟩
          · exact (p'.own i q z1).imp (fun ⟨l, y⟩ => ⟨l, y.2⟩) id
        · exact (f' q f).imp (fun ⟨l, y⟩ => ⟨l, y.2⟩) id
      · cases hg
    · cases hg
  · cases hg
end
end S

/-! M21a: texts that are senders and texts near them, by code points -/
namespace K
open PySem PySem.StrLaws
structure Nm (a : List Nat) : Prop where
  l1 : 1 ≤ a.length
  l8 : a.length ≤ 8
  let_ : ∀ c ∈ a, 97 ≤ c ∧ c ≤ 122
def nm (a : List Nat) : Bool := decide (1 ≤ a.length) && decide (a.length ≤ 8) && a.all fun c => decide (97 ≤ c ∧ c ≤ 122)
theorem Nm.nm {a : List Nat} (h : Nm a) : nm a = true := by
  unfold K.nm
  rw [decide_eq_true h.l1, decide_eq_true h.l8, List.all_eq_true.mpr fun c hc => decide_eq_true (h.let_ c hc)]
  rfl
theorem Nm.no32 {a : List Nat} (h : Nm a) : 32 ∉ a := fun z => by have := h.let_ 32 z; omega
def isS (a : List Nat) : Bool := match TL.spl [32] 0 [] a with | [p, q, r] => decide (q = [97, 116]) && (nm p && nm r) | _ => false
def snd (n m : List Nat) : List Nat := n ++ ([32, 97, 116, 32] ++ m)
theorem isS_join {ps : List (List Nat)} (hne : ps ≠ []) (h : ∀ p ∈ ps, 32 ∉ p) : isS (TL.joinL [32] ps) = match ps with | [p, q, r] => decide (q = [97, 116]) && (nm p && nm r) | _ => false := by
  unfold isS
  rw [SX.spl_join hne h]
section
variable {n m : List Nat} (hn : Nm n) (hm : Nm m)
include hn hm
theorem isS_snd : isS (snd n m) = true := by
  have e : snd n m = TL.joinL [32] [n, [97, 116], m] := by simp [snd, TL.joinL]
  rw [e, isS_join (by simp) (by
    intro p hp
    simp at hp
    rcases hp with rfl | rfl | rfl
    · exact hn.no32
    · simp
    · exact hm.no32)]
  simp [hn.nm, hm.nm]
theorem bent0 : isS (snd n m ++ [32]) = false := by
  have e : snd n m ++ [32] = TL.joinL [32] [n, [97, 116], m, []] := by simp [snd, TL.joinL]
  rw [e, isS_join (by simp) (by
    intro p hp
    simp at hp
    rcases hp with rfl | rfl | rfl | rfl
    · exact hn.no32
    · simp
    · exact hm.no32
    · simp)]
theorem bent1 : isS ([32] ++ snd n m) = false := by
  have e : [32] ++ snd n m = TL.joinL [32] [[], n, [97, 116], m] := by simp [snd, TL.joinL]
  rw [e, isS_join (by simp) (by
    intro p hp
    simp at hp
    rcases hp with rfl | rfl | rfl | rfl
    · simp
    · exact hn.no32
    · simp
    · exact hm.no32)]
theorem bent2 : isS (n ++ ([32, 98, 121, 32] ++ m)) = false := by
  have e : n ++ ([32, 98, 121, 32] ++ m) = TL.joinL [32] [n, [98, 121], m] := by simp [TL.joinL]
  rw [e, isS_join (by simp) (by
    intro p hp
    simp at hp
    rcases hp with rfl | rfl | rfl
    · exact hn.no32
    · simp
    · exact hm.no32)]
  simp
theorem bent3 : isS (n ++ ([32, 97, 116, 32, 32] ++ m)) = false := by
  have e : n ++ ([32, 97, 116, 32, 32] ++ m) = TL.joinL [32] [n, [97, 116], [], m] := by simp [TL.joinL]
  rw [e, isS_join (by simp) (by
    intro p hp
    simp at hp
    rcases hp with rfl | rfl | rfl | rfl
    · exact hn.no32
    · simp
    · simp
    · exact hm.no32)]
theorem bent4 : isS (snd n m ++ [32, 97, 116, 32, 97]) = false := by
  have e : snd n m ++ [32, 97, 116, 32, 97] = TL.joinL [32] [n, [97, 116], m, [97, 116], [97]] := by simp [snd, TL.joinL]
  rw [e, isS_join (by simp) (by
    intro p hp
    simp at hp
    rcases hp with rfl | rfl | rfl | rfl | rfl
    · exact hn.no32
    · simp
    · exact hm.no32
    · simp
    · simp)]
theorem bent5 : isS (n ++ ([97, 116] ++ m)) = false := by
  have e : n ++ ([97, 116] ++ m) = TL.joinL [32] [n ++ ([97, 116] ++ m)] := by simp [TL.joinL]
  rw [e, isS_join (by simp) (by
    intro p hp
    simp at hp
    subst hp
    simp
    exact ⟨hn.no32, hm.no32⟩)]
theorem bent6 : isS ((snd n m).take 1 ++ [49] ++ (snd n m).drop 1) = false := by
  cases n with
  | nil => exact absurd hn.l1 (by simp)
  | cons c r =>
    have hc := hn.let_ c List.mem_cons_self
    have e : (snd (c :: r) m).take 1 ++ [49] ++ (snd (c :: r) m).drop 1 = TL.joinL [32] [c :: 49 :: r, [97, 116], m] := by simp [snd, TL.joinL]
    rw [e, isS_join (by simp) (by
      intro p hp
      simp at hp
      rcases hp with rfl | rfl | rfl
      · have := hn.no32
        simp at this ⊢
        exact this
      · simp
      · exact hm.no32)]
    simp [nm]
theorem bent7 : isS (n ++ ([32, 65, 116, 32] ++ m)) = false := by
  have e : n ++ ([32, 65, 116, 32] ++ m) = TL.joinL [32] [n, [65, 116], m] := by simp [TL.joinL]
  rw [e, isS_join (by simp) (by
    intro p hp
    simp at hp
    rcases hp with rfl | rfl | rfl
    · exact hn.no32
    · simp
    · exact hm.no32)]
  simp
end
theorem repl_skip {y z : List Nat} (hy : ∃ t, y = 32 :: t) : ∀ {a : List Nat} (l : List Nat), 32 ∉ a → replL y z (a ++ l) = a ++ replL y z l
  | [], l, _ => rfl
  | c :: a, l, h => by
    obtain ⟨t, rfl⟩ := hy
    rw [List.mem_cons, not_or] at h
    rw [List.cons_append, replL_miss (by
      intro e
      rw [List.length_cons, List.take_succ_cons] at e
      injection e with e1 e2
      exact h.1 e1.symm), repl_skip ⟨t, rfl⟩ l h.2]
    rfl
theorem repl_snd {n m z : List Nat} (hn : 32 ∉ n) (hm : 32 ∉ m) : replL [32, 97, 116, 32] z (snd n m) = n ++ (z ++ m) := by
  unfold snd
  rw [repl_skip ⟨_, rfl⟩ _ hn]
  have h1 : replL [32, 97, 116, 32] z ([32, 97, 116, 32] ++ m) = z ++ replL [32, 97, 116, 32] z m := replL_hit (c := 32) (r := 97 :: 116 :: 32 :: m) (by simp) (by simp)
  have h2 := repl_skip (y := [32, 97, 116, 32]) (z := z) ⟨_, rfl⟩ [] hm
  rw [List.append_nil, replL_nil, List.append_nil] at h2
  rw [h1, h2]
theorem repl_blank {n m : List Nat} (hn : 32 ∉ n) (hm : 32 ∉ m) : replL [32] [] (snd n m) = n ++ ([97, 116] ++ m) := by
  unfold snd
  rw [repl_skip ⟨_, rfl⟩ _ hn]
  have h1 : replL [32] [] ([32, 97, 116, 32] ++ m) = [] ++ replL [32] [] (97 :: 116 :: 32 :: m) := replL_hit (c := 32) (r := 97 :: 116 :: 32 :: m) (by simp) (by simp)
  have h2 : replL [32] [] ([97, 116] ++ (32 :: m)) = [97, 116] ++ replL [32] [] (32 :: m) := repl_skip ⟨_, rfl⟩ _ (by simp)
  have h3 : replL [32] [] (32 :: m) = [] ++ replL [32] [] m := replL_hit (c := 32) (r := m) (by simp) (by simp)
  have h4 := repl_skip (y := [32]) (z := []) ⟨_, rfl⟩ [] hm
  rw [List.append_nil, replL_nil, List.append_nil] at h4
  have h2' : replL [32] [] (97 :: 116 :: 32 :: m) = [97, 116] ++ replL [32] [] (32 :: m) := h2
  rw [h1, h2', h3, h4]
  rfl
theorem snd_inj {n m n' m' : List Nat} (hn : 32 ∉ n) (hn' : 32 ∉ n') (e : snd n m = snd n' m') : n = n' ∧ m = m' := by
  unfold snd at e
  have h1 : ∀ {a b : List Nat} {x y : List Nat}, 32 ∉ a → 32 ∉ b → a ++ 32 :: x = b ++ 32 :: y → a = b ∧ x = y := by
    intro a
    induction a with
    | nil =>
      intro b x y _ hb e
      cases b with
      | nil => simp at e; exact ⟨rfl, e⟩
      | cons c b => simp at e; exact absurd e.1 (fun z => hb (by rw [z]; exact List.mem_cons_self))
    | cons c a ih =>
      intro b x y ha hb e
      cases b with
      | nil => simp at e; exact absurd e.1 (fun z => ha (by rw [z]; exact List.mem_cons_self))
      | cons d b =>
        simp at e
        obtain ⟨q1, q2⟩ := ih (fun z => ha (List.mem_cons_of_mem _ z)) (fun z => hb (List.mem_cons_of_mem _ z)) e.2
        exact ⟨by rw [e.1, q1], q2⟩
  obtain ⟨q1, q2⟩ := h1 hn hn' e
  exact ⟨q1, by simpa using q2⟩
end K

/-! M21b: tables and gifts -/
namespace K
open PySem L2 G S
abbrev Gf := Str × Str × Bool
def gD (g : Gf) : G.D := .tup [.str g.1, .str g.2.1, .bl g.2.2]
theorem get_upd1 (x y x' : Str) : ∀ g : List (Str × List Str), get (upd1 g x y) x' = if x' = x then (get g x).map (· ++ [y]) else get g x'
  | [] => by unfold upd1; unfold S.get; simp
  | (k, xs) :: g => by
    have ih := get_upd1 x y x' g
    unfold upd1
    by_cases e : k = x
    · rw [if_pos e]
      unfold S.get
      by_cases e' : x' = x
      · rw [if_pos e']
        subst e'
        simp [e]
      · rw [if_neg e']
        have : ¬ k = x' := fun z => e' (z ▸ e)
        simp [this]
    · rw [if_neg e]
      unfold S.get at ih ⊢
      by_cases e2 : k = x'
      · have e' : ¬ x' = x := fun z => e (e2.trans z)
        rw [if_neg e']
        simp [e2]
      · by_cases e' : x' = x
        · rw [if_pos e'] at ih ⊢
          subst e'
          simp only [List.find?_cons, e2, decide_false]
          exact ih
        · rw [if_neg e'] at ih ⊢
          simp only [List.find?_cons, e2, decide_false]
          exact ih
theorem get_app (g h : List (Str × List Str)) (x : Str) : get (g ++ h) x = (get g x).or (get h x) := by
  unfold S.get
  rw [List.find?_append]
  cases (g.find? fun q => decide (q.1 = x)) <;> rfl
theorem get_addRow (g : List (Str × List Str)) (x y x' : Str) : get (addRow g x y) x' = if x' = x then some (if isNew g x y = true then (get g x).getD [] ++ [y] else (get g x).getD []) else get g x' := by
  unfold addRow isNew
  cases q : get g x with
  | none =>
    simp only
    rw [get_app]
    by_cases e : x' = x
    · subst e
      rw [q]
      simp [S.get]
    · have e2 : ¬ x = x' := fun z => e z.symm
      rw [if_neg e]
      have : get [(x, [y])] x' = none := by simp [S.get, e2]
      rw [this]
      cases get g x' <;> rfl
  | some xs =>
    simp only
    by_cases c : xs.contains y = true
    · rw [if_pos c]
      have c2 : y ∈ xs := List.contains_iff_mem.mp c
      by_cases e : x' = x
      · subst e; simp [c2, q]
      · rw [if_neg e]
    · have c2 : ¬ y ∈ xs := fun z => c (List.contains_iff_mem.mpr z)
      rw [if_neg c, get_upd1, q]
      simp [c2]
structure Inv (o : Sd) (gs : List Gf) : Prop where
  row : ∀ b x y, y ∈ (get (pick b o) x).getD [] ↔ (x, y, b) ∈ gs
  key : ∀ b x, (get (pick b o) x).isSome = true ↔ ∃ y, (x, y, b) ∈ gs
  len : ∀ b, (pick b o).length ≤ gs.length
  rl : ∀ b x, ((get (pick b o) x).getD []).length ≤ gs.length
theorem pick_nil (ss : List Str) (b : Bool) : pick b ⟨ss, [], []⟩ = [] := by cases b <;> rfl
theorem Inv.nil (ss : List Str) : Inv ⟨ss, [], []⟩ [] := ⟨fun b x y => by rw [pick_nil]; simp [S.get], fun b x => by rw [pick_nil]; simp [S.get], fun b => by rw [pick_nil]; exact Nat.le_refl _, fun b x => by rw [pick_nil]; simp [S.get]⟩
theorem pick_give (b b' : Bool) (o : Sd) (x y : Str) : pick b' (give b o x y) = if b' = b then addRow (pick b o) x y else pick b' o := by
  unfold give setG
  cases b <;> cases b' <;> rfl
theorem ord_give (b : Bool) (o : Sd) (x y : Str) : (give b o x y).ord = o.ord := by unfold give setG; cases b <;> rfl
theorem len_upd1 (x y : Str) : ∀ g : List (Str × List Str), (upd1 g x y).length = g.length
  | [] => rfl
  | (k, xs) :: g => by
    unfold upd1
    split
    · rfl
    · rw [List.length_cons, List.length_cons, len_upd1 x y g]
theorem len_addRow (g : List (Str × List Str)) (x y : Str) : (addRow g x y).length ≤ g.length + 1 := by
  unfold addRow
  split
  · rw [List.length_append]; exact Nat.le_refl _
  · split
    · omega
    · rw [len_upd1]; omega
theorem Inv.isNew {o : Sd} {gs : List Gf} (h : Inv o gs) (b : Bool) (x y : Str) : isNew (pick b o) x y = !decide ((x, y, b) ∈ gs) := by
  have r := h.row b x y
  unfold S.isNew
  cases q : get (pick b o) x with
  | none =>
    rw [q] at r
    have : ¬ (x, y, b) ∈ gs := fun z => by have := r.mpr z; simp at this
    simp [this]
  | some xs =>
    rw [q] at r
    simp only [Option.getD_some] at r
    by_cases c : y ∈ xs
    · have := r.mp c
      simp [this, c]
    · have n : ¬ (x, y, b) ∈ gs := fun z => c (r.mpr z)
      have c2 : xs.contains y = false := by
        cases z : xs.contains y with
        | false => rfl
        | true => exact absurd (List.contains_iff_mem.mp z) c
      simp [n, c]
theorem Inv.give {o : Sd} {gs : List Gf} (h : Inv o gs) (b : Bool) (x y : Str) : Inv (give b o x y) (gs ++ [(x, y, b)]) := by
  have hn := h.isNew b x y
  have hg : ∀ b' x', get (pick b' (S.give b o x y)) x' = if b' = b ∧ x' = x then some (if S.isNew (pick b o) x y = true then (get (pick b o) x).getD [] ++ [y] else (get (pick b o) x).getD []) else get (pick b' o) x' := fun b' x' => by
    rw [pick_give]
    by_cases e : b' = b
    · subst e
      rw [if_pos rfl, get_addRow]
      by_cases e' : x' = x <;> simp [e']
    · simp [e]
  have r0 := h.row b x
  refine ⟨fun b' x' y' => ?_, fun b' x' => ?_, fun b' => ?_, fun b' x' => ?_⟩
  · rw [hg, List.mem_append, List.mem_singleton]
    by_cases e : b' = b ∧ x' = x
    · rw [if_pos e]
      obtain ⟨rfl, rfl⟩ := e
      simp only [Option.getD_some]
      by_cases c : S.isNew (pick b' o) x' y = true
      · rw [if_pos c, List.mem_append, List.mem_singleton, r0 y']
        constructor
        · rintro (z | z)
          · exact .inl z
          · subst z; exact .inr rfl
        · rintro (z | z)
          · exact .inl z
          · injection z with _ z; injection z with z _; exact .inr z
      · rw [if_neg c, r0 y']
        constructor
        · exact .inl
        · rintro (z | z)
          · exact z
          · injection z with _ z; injection z with z _; subst z
            rw [hn] at c
            simp at c
            exact c
    · rw [if_neg e, h.row b' x' y']
      constructor
      · exact .inl
      · rintro (z | z)
        · exact z
        · injection z with z1 z; injection z with z2 z3; exact absurd ⟨z3, z1⟩ e
  · rw [hg]
    by_cases e : b' = b ∧ x' = x
    · rw [if_pos e]
      obtain ⟨rfl, rfl⟩ := e
      simp only [Option.isSome_some, true_iff]
      exact ⟨y, by simp⟩
    · rw [if_neg e, h.key b' x']
      constructor
      · rintro ⟨z, hz⟩; exact ⟨z, List.mem_append_left _ hz⟩
      · rintro ⟨z, hz⟩
        rcases List.mem_append.mp hz with q | q
        · exact ⟨z, q⟩
        · rw [List.mem_singleton] at q
          injection q with z1 q; injection q with z2 z3; exact absurd ⟨z3, z1⟩ e
  · rw [pick_give, List.length_append, List.length_singleton]
    have := h.len b
    have := h.len b'
    split
    · have := len_addRow (pick b o) x y; omega
    · omega
  · rw [hg, List.length_append, List.length_singleton]
    have h1 := h.rl b x
    have h2 := h.rl b' x'
    split
    · simp only [Option.getD_some]
      split
      · rw [List.length_append, List.length_singleton]; omega
      · omega
    · omega
theorem Inv.perm {o : Sd} {gs hs : List Gf} (h : Inv o gs) (hm : ∀ g, g ∈ gs ↔ g ∈ hs) (hl : gs.length = hs.length) : Inv o hs := ⟨fun b x y => (h.row b x y).trans (hm _), fun b x => (h.key b x).trans ⟨fun ⟨y, z⟩ => ⟨y, (hm _).mp z⟩, fun ⟨y, z⟩ => ⟨y, (hm _).mpr z⟩⟩, fun b => hl ▸ h.len b, fun b x => hl ▸ h.rl b x⟩
theorem mem_keys {g : List (Str × List Str)} {x : Str} : x ∈ g.map (·.1) ↔ (get g x).isSome = true := by
  unfold S.get
  induction g with
  | nil => simp
  | cons q g ih =>
    rw [List.map_cons, List.mem_cons, List.find?_cons]
    by_cases e : q.1 = x
    · simp [e]
    · simp only [e, decide_false]
      rw [← ih]
      exact ⟨fun z => z.elim (fun y => absurd y.symm e) id, .inr⟩
theorem sortS_perm {l m : List Str} (h : l.Perm m) : sortS l = sortS m :=
  asc_unique strictS (((sortBy_perm sLt l).trans h).trans (sortBy_perm sLt m).symm) (sortBy_asc strictS l) (sortBy_asc strictS m)
def has (gs : List Gf) (x : Str) : Bool := gs.any fun g => decide (g.1 = x)
theorem Inv.names {o : Sd} {gs : List Gf} (h : Inv o gs) {ss : List Str} (nd : ss.Nodup) (hs : ∀ g ∈ gs, g.1 ∈ ss) : (dd (o.giv.map (·.1) ++ o.stm.map (·.1))).Perm (ss.filter (has gs)) := by
  refine (List.perm_ext_iff_of_nodup (dd_nodup _) (nd.filter _)).mpr fun k => ?_
  have e1 := h.key true k
  have e2 := h.key false k
  rw [dd_mem, List.mem_append, mem_keys, mem_keys, List.mem_filter]
  have e1' : (get o.giv k).isSome = true ↔ ∃ y, (k, y, true) ∈ gs := e1
  have e2' : (get o.stm k).isSome = true ↔ ∃ y, (k, y, false) ∈ gs := e2
  rw [e1', e2']
  unfold has
  rw [List.any_eq_true]
  constructor
  · rintro (⟨y, z⟩ | ⟨y, z⟩)
    · exact ⟨hs _ z, _, z, by simp⟩
    · exact ⟨hs _ z, _, z, by simp⟩
  · rintro ⟨_, ⟨x, y, b⟩, z, q⟩
    have q := of_decide_eq_true q
    simp only at q
    subst q
    cases b
    · exact .inr ⟨y, z⟩
    · exact .inl ⟨y, z⟩
end K

/-! the defs of the text, by gen21.py -/
namespace K
open PySem L2 G S
def topS (i : Nat) : Stmt := PySem.Challenge.pw_filedalike_k21_standings_of_senders.main.body.getD i (.Pass ⟨0, 0, 0, 0⟩)
structure Tx (K : PySem.W.Frag) (C : Addr) (mg : Str → Option Value) : Prop where
  n_abs : mg "abs" = none
  n_all : mg "all" = none
  n_bool : mg "bool" = none
  n_enumerate : mg "enumerate" = none
  n_int : mg "int" = none
  n_isinstance : mg "isinstance" = none
  n_len : mg "len" = none
  n_list : mg "list" = none
  n_max : mg "max" = none
  n_min : mg "min" = none
  n_range : mg "range" = none
  n_set : mg "set" = none
  n_sorted : mg "sorted" = none
  n_str : mg "str" = none
  n_tuple : mg "tuple" = none
  g_MOST_SIGNS : ∃ t, mg "MOST_SIGNS" = some (.int 8 t)
  g_SIGNS : ∃ t, mg "SIGNS" = some (.str "abcdefghijklmnopqrstuvwxyz" t)
  cs : Cs K C
  f_order : FldOk (gam K C) "order"
  f_given : FldOk (gam K C) "given"
  f_stamped : FldOk (gam K C) "stamped"

section
variable {K : PySem.W.Frag} {C : Addr} {P : Program} {w : World} {mg : Str → Option Value} {base : Heap}
abbrev s_SE_init : Stmt := inClass (topS 6) 0
theorem sc_SE_init : FnScope ["self", "standings"] ["self", "standings"] (defScope s_SE_init) := ⟨rfl, rfl, rfl, by decide +kernel, rfl, by decide +kernel, by decide +kernel⟩
def b_SE_init : Es (gam K C) := mSeq (mFSet 0 "order" (mN (pN1 pTuple) [.brw 1]))
    (mSeq (mFSet 0 "given" (mDNew))
    (mFSet 0 "stamped" (mDNew)))
def f_SE_init : Fn (gam K C) := mFun 2 0 [] b_SE_init
theorem d_SE_init {f : Addr} {fd : FuncData} (F : Fun K "__init__" "Senders.__init__" s_SE_init f fd) (T : Tx K C mg) : FnOk P w K mg base CX0 1 f fd ["self", "standings"] (spG (gam K C) 2 f_SE_init) := by
  refine fn_okG (Γ := gam K C) (k := 0) (A := []) (body := b_SE_init) F sc_SE_init rfl rfl rfl fun cdv Ar outer s H E hr => ?_
  unfold b_SE_init
  exact sdss_cons (sds_fld 0 T.f_order rfl (by first | exact Or.inl rfl | exact Or.inr (Or.inl rfl) | exact Or.inr (Or.inr rfl)) (sd_callTy b_tuple rfl T.n_tuple (by decide +kernel) (.cons (sda_var 1) (fun _ => rfl) (.nil))))
    (sdss_cons (sds_fld 0 T.f_given rfl (by first | exact Or.inl rfl | exact Or.inr (Or.inl rfl) | exact Or.inr (Or.inr rfl)) (sd_dnew))
    (sdss_one (sds_fld 0 T.f_stamped rfl (by first | exact Or.inl rfl | exact Or.inr (Or.inl rfl) | exact Or.inr (Or.inr rfl)) (sd_dnew))))

abbrev s_SE_give : Stmt := inClass (topS 6) 1
theorem sc_SE_give : FnScope ["self", "sender", "standing", "by_hand", "table", "row"] ["self", "sender", "standing", "by_hand"] (defScope s_SE_give) := ⟨rfl, rfl, rfl, by decide +kernel, rfl, by decide +kernel, by decide +kernel⟩
def b_SE_give : Es (gam K C) := mGive
def f_SE_give : Fn (gam K C) := mFun 4 2 [4, 5] b_SE_give
theorem d_SE_give {f : Addr} {fd : FuncData} (F : Fun K "give" "Senders.give" s_SE_give f fd) (T : Tx K C mg) : FnOk P w K mg base CX0 1 f fd ["self", "sender", "standing", "by_hand"] (spG (gam K C) 4 f_SE_give) := by
  refine fn_okG (Γ := gam K C) (k := 0) (A := [4, 5]) (body := b_SE_give) F sc_SE_give rfl rfl rfl fun cdv Ar outer s H E hr => ?_
  unfold b_SE_give
  exact give_ok T.cs (pss_cons (ps_set sc_SE_give.nd rfl (by first | exact Or.inl rfl | exact Or.inr rfl) (pe_ifExp (pt_truth (pe_var (i := 3) rfl (by first | exact Or.inl rfl | exact Or.inr (Or.inl rfl) | exact Or.inr (Or.inr rfl))) (fun _ => rfl)) (pe_fld (pe_var (i := 0) rfl (by first | exact Or.inl rfl | exact Or.inr (Or.inl rfl) | exact Or.inr (Or.inr rfl))) rfl) (pe_fld (pe_var (i := 0) rfl (by first | exact Or.inl rfl | exact Or.inr (Or.inl rfl) | exact Or.inr (Or.inr rfl))) rfl)))
    (pss_cons (ps_set sc_SE_give.nd rfl (by first | exact Or.inl rfl | exact Or.inr rfl) (pe_dsetd (pe_var (i := 4) rfl (by first | exact Or.inl rfl | exact Or.inr (Or.inl rfl) | exact Or.inr (Or.inr rfl))) (pe_var (i := 1) rfl (by first | exact Or.inl rfl | exact Or.inr (Or.inl rfl) | exact Or.inr (Or.inr rfl))) (pe_lst pa_nil) ⟨rfl, rfl, rfl, rfl⟩))
    (pss_cons (ps_if (pt_cmpR op_in_seq (pe_var (i := 2) rfl (by first | exact Or.inl rfl | exact Or.inr (Or.inl rfl) | exact Or.inr (Or.inr rfl))) (pe_var (i := 5) rfl (by first | exact Or.inl rfl | exact Or.inr (Or.inl rfl) | exact Or.inr (Or.inr rfl))) rfl) (pss_one (ps_ret pe_bl)) pss_nil)
    (pss_cons (ps_expr (pe_bm PySem.F.plainAttrs_list PySem.F.slot_list_append PySem.F.type_list_append mt_append (pe_var (i := 5) rfl (by first | exact Or.inl rfl | exact Or.inr (Or.inl rfl) | exact Or.inr (Or.inr rfl))) (pa_cons (pe_var (i := 2) rfl (by first | exact Or.inl rfl | exact Or.inr (Or.inl rfl) | exact Or.inr (Or.inr rfl))) pa_nil)))
    (pss_one (ps_ret pe_bl))))))

abbrev s_SE_standings_of : Stmt := inClass (topS 6) 2
theorem sc_SE_standings_of : FnScope ["self", "sender", "row", "standing"] ["self", "sender"] (defScope s_SE_standings_of) := ⟨rfl, rfl, rfl, by decide +kernel, rfl, by decide +kernel, by decide +kernel⟩
def b_SE_standings_of : Es (gam K C) := mSeq (mSet 2 (m2 pAdd (.ex (mRow true 0 1)) (.ex (mRow false 0 1))))
    (mRet (mN (pN1 pTuple) [.ex (mLc (iSeq (mOrd 0)) [3] (gNm 3) (toT (m2 pIn (.brw 3) (.brw 2))) (mVar 3))]))
def f_SE_standings_of : Fn (gam K C) := mFun 2 2 [2] b_SE_standings_of
theorem d_SE_standings_of {f : Addr} {fd : FuncData} (F : Fun K "standings_of" "Senders.standings_of" s_SE_standings_of f fd) (T : Tx K C mg) : FnOk P w K mg base CX0 1 f fd ["self", "sender"] (spG (gam K C) 2 f_SE_standings_of) := by
  refine fn_okG (Γ := gam K C) (k := 0) (A := [2]) (body := b_SE_standings_of) F sc_SE_standings_of rfl rfl rfl fun cdv Ar outer s H E hr => ?_
  unfold b_SE_standings_of
  exact sdss_cons (sds_set 2 (by decide) rfl (by first | exact Or.inl rfl | exact Or.inr rfl) (sd_add (sda_ex (sd_row 0 1 T.cs (.inl ⟨rfl, rfl⟩) ⟨rfl, rfl, rfl, rfl⟩)) (sda_ex (sd_row 0 1 T.cs (.inr ⟨rfl, rfl⟩) ⟨rfl, rfl, rfl, rfl⟩))))
    (sdss_one (sds_ret (sd_callTy b_tuple rfl T.n_tuple (by decide +kernel) (.cons (sda_ex (sd_lc (own := [("standing", 3)]) (blkOk_by (by exact rfl)) (sdi_seq (sd_ord 0 T.cs)) (fun _ _ _ _ _ => sdg_name 3 (by simp) rfl (by first | exact Or.inl rfl | exact Or.inr rfl) (by first | exact Or.inl rfl | exact Or.inr rfl)) (.one fun _ _ _ _ _ => sdt_cmp c_in (sda_var 3) (sda_var 2)) (fun _ _ _ _ _ => sd_var 3))) (fun _ => rfl) (.nil)))))

abbrev s_SE_by_hand : Stmt := inClass (topS 6) 3
theorem sc_SE_by_hand : FnScope ["self", "sender", "row", "standing"] ["self", "sender"] (defScope s_SE_by_hand) := ⟨rfl, rfl, rfl, by decide +kernel, rfl, by decide +kernel, by decide +kernel⟩
def b_SE_by_hand : Es (gam K C) := mSeq (mSet 2 (mRow true 0 1))
    (mRet (mN (pN1 pTuple) [.ex (mLc (iSeq (mOrd 0)) [3] (gNm 3) (toT (m2 pIn (.brw 3) (.brw 2))) (mVar 3))]))
def f_SE_by_hand : Fn (gam K C) := mFun 2 2 [2] b_SE_by_hand
theorem d_SE_by_hand {f : Addr} {fd : FuncData} (F : Fun K "by_hand" "Senders.by_hand" s_SE_by_hand f fd) (T : Tx K C mg) : FnOk P w K mg base CX0 1 f fd ["self", "sender"] (spG (gam K C) 2 f_SE_by_hand) := by
  refine fn_okG (Γ := gam K C) (k := 0) (A := [2]) (body := b_SE_by_hand) F sc_SE_by_hand rfl rfl rfl fun cdv Ar outer s H E hr => ?_
  unfold b_SE_by_hand
  exact sdss_cons (sds_set 2 (by decide) rfl (by first | exact Or.inl rfl | exact Or.inr rfl) (sd_row 0 1 T.cs (.inl ⟨rfl, rfl⟩) ⟨rfl, rfl, rfl, rfl⟩))
    (sdss_one (sds_ret (sd_callTy b_tuple rfl T.n_tuple (by decide +kernel) (.cons (sda_ex (sd_lc (own := [("standing", 3)]) (blkOk_by (by exact rfl)) (sdi_seq (sd_ord 0 T.cs)) (fun _ _ _ _ _ => sdg_name 3 (by simp) rfl (by first | exact Or.inl rfl | exact Or.inr rfl) (by first | exact Or.inl rfl | exact Or.inr rfl)) (.one fun _ _ _ _ _ => sdt_cmp c_in (sda_var 3) (sda_var 2)) (fun _ _ _ _ _ => sd_var 3))) (fun _ => rfl) (.nil)))))

abbrev s_SE_names : Stmt := inClass (topS 6) 4
theorem sc_SE_names : FnScope ["self"] ["self"] (defScope s_SE_names) := ⟨rfl, rfl, rfl, by decide +kernel, rfl, by decide +kernel, by decide +kernel⟩
def b_SE_names : Es (gam K C) := mRet (mSortSet (m2 pAdd (.ex (mKeys true 0)) (.ex (mKeys false 0))))
def f_SE_names : Fn (gam K C) := mFun 1 0 [] b_SE_names
theorem d_SE_names {f : Addr} {fd : FuncData} (F : Fun K "names" "Senders.names" s_SE_names f fd) (T : Tx K C mg) : FnOk P w K mg base CX0 1 f fd ["self"] (spG (gam K C) 1 f_SE_names) := by
  refine fn_okG (Γ := gam K C) (k := 0) (A := []) (body := b_SE_names) F sc_SE_names rfl rfl rfl fun cdv Ar outer s H E hr => ?_
  unfold b_SE_names
  exact sdss_one (sds_ret (sd_sortset rfl T.n_sorted rfl T.n_set (sd_add (sda_ex (sd_keys 0 T.cs (.inl ⟨rfl, rfl⟩) rfl T.n_list)) (sda_ex (sd_keys 0 T.cs (.inr ⟨rfl, rfl⟩) rfl T.n_list))) (fun _ => rfl)))

abbrev s_SE_contains : Stmt := inClass (topS 6) 5
theorem sc_SE_contains : FnScope ["self", "sender"] ["self", "sender"] (defScope s_SE_contains) := ⟨rfl, rfl, rfl, by decide +kernel, rfl, by decide +kernel, by decide +kernel⟩
def b_SE_contains : Es (gam K C) := mRet (mOrV (mInD true 0 1) (mInD false 0 1))
def f_SE_contains : Fn (gam K C) := mFun 2 0 [] b_SE_contains
theorem d_SE_contains {f : Addr} {fd : FuncData} (F : Fun K "__contains__" "Senders.__contains__" s_SE_contains f fd) (T : Tx K C mg) : FnOk P w K mg base CX0 1 f fd ["self", "sender"] (spG (gam K C) 2 f_SE_contains) := by
  refine fn_okG (Γ := gam K C) (k := 0) (A := []) (body := b_SE_contains) F sc_SE_contains rfl rfl rfl fun cdv Ar outer s H E hr => ?_
  unfold b_SE_contains
  exact sdss_one (sds_ret (sd_or (sd_inD 0 1 T.cs (.inl ⟨rfl, rfl⟩)) (sd_one (sd_inD 0 1 T.cs (.inr ⟨rfl, rfl⟩)))))

abbrev s_SE_len : Stmt := inClass (topS 6) 6
theorem sc_SE_len : FnScope ["self"] ["self"] (defScope s_SE_len) := ⟨rfl, rfl, rfl, by decide +kernel, rfl, by decide +kernel, by decide +kernel⟩
def b_SE_len : Es (gam K C) := mRet (mN (pN1 pLen) [.ex (mMethO 1 f_SE_names 0 [] [])])
def f_SE_len : Fn (gam K C) := mFun 1 0 [] b_SE_len
theorem d_SE_len {f : Addr} {fd : FuncData} (F : Fun K "__len__" "Senders.__len__" s_SE_len f fd) (T : Tx K C mg) (F_names : MOC K C P w mg base "names" 1 f_SE_names [] 1) : FnOk P w K mg base CX0 2 f fd ["self"] (spG (gam K C) 1 f_SE_len) := by
  refine fn_okG (Γ := gam K C) (k := 1) (A := []) (body := b_SE_len) F sc_SE_len rfl rfl rfl fun cdv Ar outer s H E hr => ?_
  unfold b_SE_len
  exact sdss_one (sds_ret (sd_callB b_len rfl T.n_len (by decide +kernel) (.cons (sda_ex (sd_meth0O 0 (MOC.mf rfl F_names hr (by decide)) (by decide +kernel) rfl (by first | exact Or.inl rfl | exact Or.inr (Or.inl rfl) | exact Or.inr (Or.inr rfl)))) (fun _ => rfl) (.nil))))

abbrev s_is_name : Stmt := topS 3
theorem sc_is_name : FnScope ["value", "sign"] ["value"] (defScope s_is_name) := ⟨rfl, rfl, rfl, by decide +kernel, rfl, by decide +kernel, by decide +kernel⟩
def b_is_name : Es (gam K C) := mSeq (mIfS (mNotT (mT (.ex (m1 (pIsi "str") (.brw 0))))) (mRet (mC (.bl false))) (mNx))
    (mSeq (mIfS (mNotT (toT (mChain pLe pLe (.ex (mC (.int 1))) (mN (pN1 pLen) [.brw 0]) (.ex (mC (.int 8)))))) (mRet (mC (.bl false))) (mNx))
    (mRet (mN (pN1 pAll) [.ex (mLc (iTxt (mVar 0)) [1] (gNm 1) (fun env => some (true, env)) (m2 pIn (.brw 1) (.ex (mC (.str "abcdefghijklmnopqrstuvwxyz")))))])))
def f_is_name : Fn (gam K C) := mFun 1 1 [] b_is_name
theorem d_is_name {f : Addr} {fd : FuncData} (F : Fun K "is_name" "is_name" s_is_name f fd) (T : Tx K C mg) : FnOk P w K mg base CX0 1 f fd ["value"] (spG (gam K C) 1 f_is_name) := by
  refine fn_okG (Γ := gam K C) (k := 0) (A := []) (body := b_is_name) F sc_is_name rfl rfl rfl fun cdv Ar outer s H E hr => ?_
  unfold b_is_name
  exact sdss_cons (sds_if (sdt_not (sdt_tru (sda_ex (sd_isi (T := "str") (by unfold fiveTy; simp) rfl T.n_isinstance rfl T.n_str (by decide +kernel) (sda_var 0) (fun _ => rfl))))) (sdss_one (sds_ret (sd_bl))) (sdss_nil))
    (sdss_cons (sds_if (sdt_not (sdt_chain c_le c_le (sda_ex (sd_int)) (sd_callB b_len rfl T.n_len (by decide +kernel) (.cons (sda_var 0) (fun _ => rfl) (.nil))) (sda_ex (sd_gI rfl T.g_MOST_SIGNS)))) (sdss_one (sds_ret (sd_bl))) (sdss_nil))
    (sdss_one (sds_ret (sd_callB b_all rfl T.n_all (by decide +kernel) (.cons (sda_ex (sd_lc (own := [("sign", 1)]) (blkOk_by (by exact rfl)) (sdi_str (sd_var 0)) (fun _ _ _ _ _ => sdg_name 1 (by simp) rfl (by first | exact Or.inl rfl | exact Or.inr rfl) (by first | exact Or.inl rfl | exact Or.inr rfl)) .nil (fun _ _ _ _ _ => sd_cmp c_in (sda_var 1) (sda_ex (sd_gS rfl T.g_SIGNS))))) (fun _ => rfl) (.nil))))))

abbrev s_is_sender : Stmt := topS 5
theorem sc_is_sender : FnScope ["thing", "items"] ["thing"] (defScope s_is_sender) := ⟨rfl, rfl, rfl, by decide +kernel, rfl, by decide +kernel, by decide +kernel⟩
def b_is_sender : Es (gam K C) := mSeq (mIfS (mNotT (mT (.ex (m1 (pIsi "str") (.brw 0))))) (mRet (mC (.bl false))) (mNx))
    (mSeq (mSet 1 (mM1 pSplit (mVar 0) (.ex (mC (.str " ")))))
    (mRet (mAndV (m2 pEq (.ex (mN (pN1 pLen) [.brw 1])) (.ex (mC (.int 3)))) (mAndV (m2 pEq (.ex (m2 pIx (.brw 1) (.ex (mC (.int 1))))) (.ex (mC (.str "at")))) (mAndV (mCall 1 f_is_name [.ex (m2 pIx (.brw 1) (.ex (mC (.int 0))))]) (mCall 1 f_is_name [.ex (m2 pIx (.brw 1) (.ex (mC (.int 2))))]))))))
def f_is_sender : Fn (gam K C) := mFun 1 1 [1] b_is_sender
theorem d_is_sender {f : Addr} {fd : FuncData} (F : Fun K "is_sender" "is_sender" s_is_sender f fd) (T : Tx K C mg) (C_is_name : Ca (gam K C) P w mg base "is_name" 1 f_is_name 1) : FnOk P w K mg base CX0 2 f fd ["thing"] (spG (gam K C) 1 f_is_sender) := by
  refine fn_okG (Γ := gam K C) (k := 1) (A := [1]) (body := b_is_sender) F sc_is_sender rfl rfl rfl fun cdv Ar outer s H E hr => ?_
  unfold b_is_sender
  exact sdss_cons (sds_if (sdt_not (sdt_tru (sda_ex (sd_isi (T := "str") (by unfold fiveTy; simp) rfl T.n_isinstance rfl T.n_str (by decide +kernel) (sda_var 0) (fun _ => rfl))))) (sdss_one (sds_ret (sd_bl))) (sdss_nil))
    (sdss_cons (sds_set 1 (by decide) rfl (by first | exact Or.inl rfl | exact Or.inr rfl) (sd_split (sd_var 0) (sda_ex (sd_str)) (fun _ => rfl)))
    (sdss_one (sds_ret (sd_and (sd_cmp c_eq (sda_ex (sd_callB b_len rfl T.n_len (by decide +kernel) (.cons (sda_var 1) (fun _ => rfl) (.nil)))) (sda_ex (sd_int))) (sd_and (sd_cmp c_eq (sda_ex (sd_ix (sda_var 1) (sda_ex (sd_int)))) (sda_ex (sd_str))) (sd_and (sd_call (Ca.df rfl C_is_name hr (by decide)) rfl (.cons (sda_ex (sd_ix (sda_var 1) (sda_ex (sd_int)))) (fun _ => rfl) (.nil))) (sd_one (sd_call (Ca.df rfl C_is_name hr (by decide)) rfl (.cons (sda_ex (sd_ix (sda_var 1) (sda_ex (sd_int)))) (fun _ => rfl) (.nil))))))))))

abbrev s_law_bag : Stmt := topS 8
theorem sc_law_bag : FnScope ["_law_script", "_law_at", "_law_number", "_law_mixed", "_law_spot", "_law_each"] ["_law_script", "_law_at"] (defScope s_law_bag) := ⟨rfl, rfl, rfl, by decide +kernel, rfl, by decide +kernel, by decide +kernel⟩
def b_law_bag : Es (gam K C) := mSeq (mSet 2 (mIf (toT (m2 pLt (.brw 1) (.ex (mN (pN1 pLen) [.brw 0])))) (m2 pIx (.brw 0) (.brw 1)) (mC (.int 0))))
    (mSeq (mSet 3 (m2 pAdd (.ex (m2 pMul (.ex (mC (.int 7919))) (.brw 1))) (.ex (mC (.int 1301)))))
    (mSeq (mFor (iEnu (mFrz (m2 pSl2 (.brw 0) (.ex (mC (.int 63)))))) (gTp [gNm 4, gNm 5])
    (mSet 3 (m2 pMod (.ex (mN (pN1 pInt) [.ex (m2 pAdd (.ex (m2 pAdd (.ex (m2 pAdd (.ex (m2 pMul (.brw 3) (.ex (mC (.int 48611))))) (.ex (m2 pMod (.ex (mN (pN1 pInt) [.brw 5])) (.ex (mC (.int 2147483543))))))) (.ex (m2 pMul (.ex (mC (.int 271))) (.brw 4))))) (.ex (mC (.int 29))))])) (.ex (mC (.int 2147483563))))))
    (mRet (mN pLstN [.ex (mFrz (mIf (toT (m2 pGe (.ex (mN (pN1 pAbs) [.brw 2])) (.ex (m2 pPow (.ex (mC (.int 10))) (.ex (mC (.int 18))))))) (mN (pN1 pAbs) [.brw 2]) (mC (.int 0)))), .ex (mVar 3)]))))
def f_law_bag : Fn (gam K C) := mFun 2 4 [2, 3, 4, 5] b_law_bag
theorem d_law_bag {f : Addr} {fd : FuncData} (F : Fun K "_law_bag" "_law_bag" s_law_bag f fd) (T : Tx K C mg) : FnOk P w K mg base CX0 1 f fd ["_law_script", "_law_at"] (spG (gam K C) 2 f_law_bag) := by
  refine fn_okG (Γ := gam K C) (k := 0) (A := [2, 3, 4, 5]) (body := b_law_bag) F sc_law_bag rfl rfl rfl fun cdv Ar outer s H E hr => ?_
  unfold b_law_bag
  exact sdss_cons (sds_set 2 (by decide) rfl (by first | exact Or.inl rfl | exact Or.inr rfl) (sd_if (sdt_cmp c_lt (sda_var 1) (sda_ex (sd_callB b_len rfl T.n_len (by decide +kernel) (.cons (sda_var 0) (fun _ => rfl) (.nil))))) (sd_ix (sda_var 0) (sda_var 1)) (sd_int)))
    (sdss_cons (sds_set 3 (by decide) rfl (by first | exact Or.inl rfl | exact Or.inr rfl) (sd_add (sda_ex (sd_mul (sda_ex (sd_int)) (sda_var 1))) (sda_ex (sd_int))))
    (sdss_cons (sds_for PassesOwn.never (sdi_enum rfl T.n_enumerate (sd_frz (sd_slHi (sda_var 0) (sda_ex (sd_int)))) (fun _ => rfl)) (sdg_tup (.cons (sdg_name 4 (by decide) rfl (by first | exact Or.inl rfl | exact Or.inr rfl) (by first | exact Or.inl rfl | exact Or.inr rfl)) rfl (.cons (sdg_name 5 (by decide) rfl (by first | exact Or.inl rfl | exact Or.inr rfl) (by first | exact Or.inl rfl | exact Or.inr rfl)) rfl (.nil))) rfl rfl)
    (sdss_one (sds_set 3 (by decide) rfl (by first | exact Or.inl rfl | exact Or.inr rfl) (sd_mod (sda_ex (sd_callTy b_int rfl T.n_int (by decide +kernel) (.cons (sda_ex (sd_add (sda_ex (sd_add (sda_ex (sd_add (sda_ex (sd_mul (sda_var 3) (sda_ex (sd_int)))) (sda_ex (sd_mod (sda_ex (sd_callTy b_int rfl T.n_int (by decide +kernel) (.cons (sda_var 5) (fun _ => rfl) (.nil)))) (sda_ex (sd_int)))))) (sda_ex (sd_mul (sda_ex (sd_int)) (sda_var 4))))) (sda_ex (sd_int)))) (fun _ => rfl) (.nil)))) (sda_ex (sd_int))))))
    (sdss_one (sds_ret (sd_lst (.cons (sda_ex (sd_frz (sd_if (sdt_cmp c_ge (sda_ex (sd_callB b_abs rfl T.n_abs (by decide +kernel) (.cons (sda_var 2) (fun _ => rfl) (.nil)))) (sda_ex (sd_pow (sda_ex (sd_int)) (sda_ex (sd_int))))) (sd_callB b_abs rfl T.n_abs (by decide +kernel) (.cons (sda_var 2) (fun _ => rfl) (.nil))) (sd_int)))) (fun _ => rfl) (.cons (sda_ex (sd_var 3)) (fun _ => rfl) (.nil))))))))

abbrev s_law_take : Stmt := topS 9
theorem sc_law_take : FnScope ["_law_bag_here", "_law_many", "_law_digit"] ["_law_bag_here", "_law_many"] (defScope s_law_take) := ⟨rfl, rfl, rfl, by decide +kernel, rfl, by decide +kernel, by decide +kernel⟩
def b_law_take : Es (gam K C) := mSeq (mIfS (toT (m2 pGt (.ex (m2 pIx (.brw 0) (.ex (mC (.int 0))))) (.ex (mC (.int 0))))) (mSeq (mSet 2 (m2 pMod (.ex (mN (pN1 pInt) [.ex (m2 pIx (.brw 0) (.ex (mC (.int 0))))])) (.brw 1)))
    (mSeq (mSetIx 0 (m2 pDiv (.ex (m2 pIx (.brw 0) (.ex (mC (.int 0))))) (.brw 1)) (mC (.int 0)))
    (mRetMv 2))) (mNx))
    (mSeq (mSetIx 0 (m2 pMod (.ex (mN (pN1 pInt) [.ex (m2 pAdd (.ex (m2 pMul (.ex (m2 pIx (.brw 0) (.ex (mC (.int 1))))) (.ex (mC (.int 39373))))) (.ex (mC (.int 7121))))])) (.ex (mC (.int 2147483587)))) (mC (.int 1)))
    (mRet (m2 pMod (.ex (m2 pDiv (.ex (m2 pMod (.ex (mN (pN1 pInt) [.ex (m2 pMul (.ex (m2 pDiv (.ex (m2 pIx (.brw 0) (.ex (mC (.int 1))))) (.ex (mC (.int 23))))) (.ex (mC (.int 30269))))])) (.ex (mC (.int 2147483549))))) (.ex (mC (.int 61))))) (.brw 1))))
def f_law_take : Fn (gam K C) := mFun 2 1 [2] b_law_take
theorem d_law_take {f : Addr} {fd : FuncData} (F : Fun K "_law_take" "_law_take" s_law_take f fd) (T : Tx K C mg) : FnOk P w K mg base CX0 1 f fd ["_law_bag_here", "_law_many"] (spG (gam K C) 2 f_law_take) := by
  refine fn_okG (Γ := gam K C) (k := 0) (A := [2]) (body := b_law_take) F sc_law_take rfl rfl rfl fun cdv Ar outer s H E hr => ?_
  unfold b_law_take
  exact sdss_cons (sds_if (sdt_cmp c_gt (sda_ex (sd_ix (sda_var 0) (sda_ex (sd_int)))) (sda_ex (sd_int))) (sdss_cons (sds_set 2 (by decide) rfl (by first | exact Or.inl rfl | exact Or.inr rfl) (sd_mod (sda_ex (sd_callTy b_int rfl T.n_int (by decide +kernel) (.cons (sda_ex (sd_ix (sda_var 0) (sda_ex (sd_int)))) (fun _ => rfl) (.nil)))) (sda_var 1)))
    (sdss_cons (sds_setIx 0 rfl (by first | exact Or.inl rfl | exact Or.inr (Or.inl rfl) | exact Or.inr (Or.inr rfl)) (sd_div (sda_ex (sd_ix (sda_var 0) (sda_ex (sd_int)))) (sda_var 1)) (sd_int))
    (sdss_one (sds_retMv 2)))) (sdss_nil))
    (sdss_cons (sds_setIx 0 rfl (by first | exact Or.inl rfl | exact Or.inr (Or.inl rfl) | exact Or.inr (Or.inr rfl)) (sd_mod (sda_ex (sd_callTy b_int rfl T.n_int (by decide +kernel) (.cons (sda_ex (sd_add (sda_ex (sd_mul (sda_ex (sd_ix (sda_var 0) (sda_ex (sd_int)))) (sda_ex (sd_int)))) (sda_ex (sd_int)))) (fun _ => rfl) (.nil)))) (sda_ex (sd_int))) (sd_int))
    (sdss_one (sds_ret (sd_mod (sda_ex (sd_div (sda_ex (sd_mod (sda_ex (sd_callTy b_int rfl T.n_int (by decide +kernel) (.cons (sda_ex (sd_mul (sda_ex (sd_div (sda_ex (sd_ix (sda_var 0) (sda_ex (sd_int)))) (sda_ex (sd_int)))) (sda_ex (sd_int)))) (fun _ => rfl) (.nil)))) (sda_ex (sd_int)))) (sda_ex (sd_int)))) (sda_var 1)))))

abbrev s_law_of : Stmt := topS 10
theorem sc_law_of : FnScope ["_law_bag_here", "_law_some_here"] ["_law_bag_here", "_law_some_here"] (defScope s_law_of) := ⟨rfl, rfl, rfl, by decide +kernel, rfl, by decide +kernel, by decide +kernel⟩
def b_law_of : Es (gam K C) := mRet (m2 pIx (.brw 1) (.ex (mCall 2 f_law_take [.brw 0, .ex (mN (pN1 pLen) [.brw 1])])))
def f_law_of : Fn (gam K C) := mFun 2 0 [] b_law_of
theorem d_law_of {f : Addr} {fd : FuncData} (F : Fun K "_law_of" "_law_of" s_law_of f fd) (T : Tx K C mg) (C_law_take : Ca (gam K C) P w mg base "_law_take" 2 f_law_take 1) : FnOk P w K mg base CX0 2 f fd ["_law_bag_here", "_law_some_here"] (spG (gam K C) 2 f_law_of) := by
  refine fn_okG (Γ := gam K C) (k := 1) (A := []) (body := b_law_of) F sc_law_of rfl rfl rfl fun cdv Ar outer s H E hr => ?_
  unfold b_law_of
  exact sdss_one (sds_ret (sd_ix (sda_var 1) (sda_ex (sd_call (Ca.df rfl C_law_take hr (by decide)) rfl (.cons (sda_var 0) (fun _ => rfl) (.cons (sda_ex (sd_callB b_len rfl T.n_len (by decide +kernel) (.cons (sda_var 1) (fun _ => rfl) (.nil)))) (fun _ => rfl) (.nil)))))))

abbrev s_law_names : Stmt := topS 12
theorem sc_law_names : FnScope ["_law_bag_here", "_law_many", "_law_letters", "_law_base", "_law_k", "_law_start", "_law_is_behind", "_law_found", "_law_one"] ["_law_bag_here", "_law_many"] (defScope s_law_names) := ⟨rfl, rfl, rfl, by decide +kernel, rfl, by decide +kernel, by decide +kernel⟩
def b_law_names : Es (gam K C) := mSeq (mSet 2 (mC (.str "abcdefghijklmnopqrstuvwxyz")))
    (mSeq (mSet 3 (mM1 pJoin (mC (.str "")) (.ex (mLc (iRng (mCall 2 f_law_of [.brw 0, .ex (mN pLstN [.ex (mC (.int 0)), .ex (mC (.int 0)), .ex (mC (.int 2)), .ex (mC (.int 7))])])) [4] (gNm 4) (fun env => some (true, env)) (m2 pIx (.brw 2) (.ex (mCall 2 f_law_take [.brw 0, .ex (mC (.int 26))])))))))
    (mSeq (mPar 5 6 (mCall 2 f_law_take [.brw 0, .ex (mC (.int 26))]) (mCall 2 f_law_take [.brw 0, .ex (mC (.int 2))]))
    (mSeq (mSet 7 (mLc (iRng (mVar 1)) [4] (gNm 4) (fun env => some (true, env)) (m2 pIx (.brw 2) (.ex (m2 pMod (.ex (m2 pAdd (.brw 5) (.ex (m2 pMul (.ex (mC (.int 7))) (.brw 4))))) (.ex (mC (.int 26))))))))
    (mRet (mLc (iSeq (mVar 7)) [8] (gNm 8) (fun env => some (true, env)) (mFrz (mIf (mT (.brw 6)) (m2 pAdd (.brw 3) (.brw 8)) (m2 pAdd (.brw 8) (.brw 3)))))))))
def f_law_names : Fn (gam K C) := mFun 2 7 [2, 3, 5, 6, 7] b_law_names
theorem d_law_names {f : Addr} {fd : FuncData} (F : Fun K "_law_names" "_law_names" s_law_names f fd) (T : Tx K C mg) (C_law_of : Ca (gam K C) P w mg base "_law_of" 2 f_law_of 2) (C_law_take : Ca (gam K C) P w mg base "_law_take" 2 f_law_take 1) : FnOk P w K mg base CX0 3 f fd ["_law_bag_here", "_law_many"] (spG (gam K C) 2 f_law_names) := by
  refine fn_okG (Γ := gam K C) (k := 2) (A := [2, 3, 5, 6, 7]) (body := b_law_names) F sc_law_names rfl rfl rfl fun cdv Ar outer s H E hr => ?_
  unfold b_law_names
  exact sdss_cons (sds_set 2 (by decide) rfl (by first | exact Or.inl rfl | exact Or.inr rfl) (sd_str))
    (sdss_cons (sds_set 3 (by decide) rfl (by first | exact Or.inl rfl | exact Or.inr rfl) (sd_join (sd_str) (sda_ex (sd_lc (own := [("_law_k", 4)]) (blkOk_by (by exact rfl)) (sdi_range rfl T.n_range (sd_call (Ca.df rfl C_law_of hr (by decide)) rfl (.cons (sda_var 0) (fun _ => rfl) (.cons (sda_ex (sd_lst (.cons (sda_ex (sd_int)) (fun _ => rfl) (.cons (sda_ex (sd_int)) (fun _ => rfl) (.cons (sda_ex (sd_int)) (fun _ => rfl) (.cons (sda_ex (sd_int)) (fun _ => rfl) (.nil))))))) (fun _ => rfl) (.nil)))) (fun _ => rfl)) (fun _ _ _ _ _ => sdg_name 4 (by simp) rfl (by first | exact Or.inl rfl | exact Or.inr rfl) (by first | exact Or.inl rfl | exact Or.inr rfl)) .nil (fun _ _ _ _ _ => sd_ix (sda_var 2) (sda_ex (sd_call (Ca.df rfl C_law_take hr (by decide)) rfl (.cons (sda_var 0) (fun _ => rfl) (.cons (sda_ex (sd_int)) (fun _ => rfl) (.nil)))))))) (fun _ => rfl)))
    (sdss_cons ((by first | exact sds_par (i := 5) (j := 6) (by decide) (by decide) rfl rfl (by decide) rfl rfl (sd_call (Ca.df rfl C_law_take hr (by decide)) rfl (.cons (sda_var 0) (fun _ => rfl) (.cons (sda_ex (sd_int)) (fun _ => rfl) (.nil)))) (fun _ => rfl) (sd_call (Ca.df rfl C_law_take hr (by decide)) rfl (.cons (sda_var 0) (fun _ => rfl) (.cons (sda_ex (sd_int)) (fun _ => rfl) (.nil)))) (fun _ => rfl) rfl | exact sds_parC (i := 5) (j := 6) (by decide) (by decide) rfl rfl (by decide) (by first | exact Or.inl rfl | exact Or.inr rfl) (by first | exact Or.inl rfl | exact Or.inr rfl) (by first | exact Or.inl rfl | exact Or.inr rfl) (by first | exact Or.inl rfl | exact Or.inr rfl) (sd_call (Ca.df rfl C_law_take hr (by decide)) rfl (.cons (sda_var 0) (fun _ => rfl) (.cons (sda_ex (sd_int)) (fun _ => rfl) (.nil)))) (fun _ => rfl) (sd_call (Ca.df rfl C_law_take hr (by decide)) rfl (.cons (sda_var 0) (fun _ => rfl) (.cons (sda_ex (sd_int)) (fun _ => rfl) (.nil)))) (fun _ => rfl)))
    (sdss_cons ((by first | exact sds_set 7 (by decide) rfl (by first | exact Or.inl rfl | exact Or.inr rfl) (sd_lc (own := [("_law_k", 4)]) (blkOk_by (by exact rfl)) (sdi_range rfl T.n_range (sd_var 1) (fun _ => rfl)) (fun _ _ _ _ _ => sdg_name 4 (by simp) rfl (by first | exact Or.inl rfl | exact Or.inr rfl) (by first | exact Or.inl rfl | exact Or.inr rfl)) .nil (fun _ _ _ _ _ => sd_ix (sda_var 2) (sda_ex (sd_mod (sda_ex (sd_add (sda_var 5) (sda_ex (sd_mul (sda_ex (sd_int)) (sda_var 4))))) (sda_ex (sd_int)))))) | exact sds_setLc 7 (by decide) rfl rfl (sw_true rfl rfl rfl (by decide +kernel)) (own := [("_law_k", 4)]) (blkOk_by (by exact rfl)) (sdi_range rfl T.n_range (sd_var 1) (fun _ => rfl)) (fun _ _ _ _ _ => sdg_name 4 (by simp) rfl (by first | exact Or.inl rfl | exact Or.inr rfl) (by first | exact Or.inl rfl | exact Or.inr rfl)) .nil (fun _ _ _ _ _ => sd_ix (sda_var 2) (sda_ex (sd_mod (sda_ex (sd_add (sda_var 5) (sda_ex (sd_mul (sda_ex (sd_int)) (sda_var 4))))) (sda_ex (sd_int)))))))
    (sdss_one (sds_ret (sd_lc (own := [("_law_one", 8)]) (blkOk_by (by exact rfl)) (sdi_seq (sd_var 7)) (fun _ _ _ _ _ => sdg_name 8 (by simp) rfl (by first | exact Or.inl rfl | exact Or.inr rfl) (by first | exact Or.inl rfl | exact Or.inr rfl)) .nil (fun _ _ _ _ _ => sd_frz (sd_if (sdt_tru (sda_var 6)) (sd_add (sda_var 3) (sda_var 8)) (sd_add (sda_var 8) (sda_var 3))))))))))

abbrev s_law_told : Stmt := topS 13
theorem sc_law_told : FnScope ["_law_table", "_law_order", "_law_gifts", "_law_senders", "_law_one", "_law_hands", "_law_each", "_law_every", "_law_due", "_law_gift"] ["_law_table", "_law_order", "_law_gifts", "_law_senders"] (defScope s_law_told) := ⟨rfl, rfl, rfl, by decide +kernel, rfl, by decide +kernel, by decide +kernel⟩
def b_law_told : Es (gam K C) := mSeq (mFor (iSeq (mVar 3)) (gNm 4)
    (mSeq (mSet 5 (mN (pN1 pTuple) [.ex (mLc (iSeq (mVar 1)) [6] (gNm 6) (toT (m2 pIn (.ex (mN pTupN [.ex (mVar 4), .ex (mVar 6), .ex (mC (.bl true))])) (.brw 2))) (mVar 6))]))
    (mSeq (mSet 7 (mN (pN1 pTuple) [.ex (mLc (iSeq (mVar 1)) [6] (gNm 6) (mOrT (toT (m2 pIn (.ex (mN pTupN [.ex (mVar 4), .ex (mVar 6), .ex (mC (.bl true))])) (.brw 2))) (toT (m2 pIn (.ex (mN pTupN [.ex (mVar 4), .ex (mVar 6), .ex (mC (.bl false))])) (.brw 2)))) (mVar 6))]))
    (mSeq (mIfS (mOrT (toT (m2 pNe (.ex (mMethO 2 (thaw f_SE_by_hand) 0 [.brw 4] [])) (.brw 5))) (toT (m2 pNe (.ex (mMethO 2 (thaw f_SE_standings_of) 0 [.brw 4] [])) (.brw 7)))) (mRet (mC (.bl false))) (mNx))
    (mSeq (mIfS (mOrT (mNotT (mT (.ex (m1 (pIsi "tuple") (.ex (mMethO 2 (thaw f_SE_by_hand) 0 [.brw 4] [])))))) (mNotT (mT (.ex (m1 (pIsi "tuple") (.ex (mMethO 2 (thaw f_SE_standings_of) 0 [.brw 4] []))))))) (mRet (mC (.bl false))) (mNx))
    (mIfS (toT (m2 pNe (.ex (mInO (thaw f_SE_contains) (.brw 4) 0)) (.ex (m2 pNe (.brw 7) (.ex (mN pTupN [])))))) (mRet (mC (.bl false))) (mNx)))))))
    (mSeq (mSet 8 (mN (pN1 pSorted) [.ex (mLc (iSeq (mVar 3)) [4] (gNm 4) (toT (m2 pNe (.ex (mLc (iSeq (mVar 2)) [9] (gNm 9) (toT (m2 pEq (.ex (m2 pIx (.brw 9) (.ex (mC (.int 0))))) (.brw 4))) (mVar 9))) (.ex (mN pLstN [])))) (mVar 4))]))
    (mRet (mAndV (m1 (pIsi "list") (.ex (mMethO 1 (thaw f_SE_names) 0 [] []))) (mAndV (m2 pEq (.ex (mMethO 1 (thaw f_SE_names) 0 [] [])) (.brw 8)) (m2 pEq (.ex (mLenO (thaw f_SE_len) 0)) (.ex (mN (pN1 pLen) [.brw 8])))))))
def f_law_told : Fn (gam K C) := mFun 4 6 [4, 5, 7, 8] b_law_told
theorem d_law_told {f : Addr} {fd : FuncData} (F : Fun K "_law_told" "_law_told" s_law_told f fd) (T : Tx K C mg) (M_standings_of : MOC K C P w mg base "standings_of" 2 (thaw f_SE_standings_of) [] 1) (M_by_hand : MOC K C P w mg base "by_hand" 2 (thaw f_SE_by_hand) [] 1) (S_contains : SOC K C P w mg base "__contains__" 2 (thaw f_SE_contains) 1) (S_len : SOC K C P w mg base "__len__" 1 (thaw f_SE_len) 2) (M_names : MOC K C P w mg base "names" 1 (thaw f_SE_names) [] 1) : FnOk P w K mg base CX0 4 f fd ["_law_table", "_law_order", "_law_gifts", "_law_senders"] (spG (gam K C) 4 f_law_told) := by
  refine fn_okG (Γ := gam K C) (k := 3) (A := [4, 5, 7, 8]) (body := b_law_told) F sc_law_told rfl rfl rfl fun cdv Ar outer s H E hr => ?_
  unfold b_law_told
  exact sdss_cons (sds_for PassesOwn.never (sdi_seq (sd_var 3)) (sdg_name 4 (by decide) rfl (by first | exact Or.inl rfl | exact Or.inr rfl) (by first | exact Or.inl rfl | exact Or.inr rfl))
    (sdss_cons (sds_set 5 (by decide) rfl (by first | exact Or.inl rfl | exact Or.inr rfl) (sd_callTy b_tuple rfl T.n_tuple (by decide +kernel) (.cons (sda_ex (sd_lc (own := [("_law_each", 6)]) (blkOk_by (by exact rfl)) (sdi_seq (sd_var 1)) (fun _ _ _ _ _ => sdg_name 6 (by simp) rfl (by first | exact Or.inl rfl | exact Or.inr rfl) (by first | exact Or.inl rfl | exact Or.inr rfl)) (.one fun _ _ _ _ _ => sdt_cmp c_in (sda_ex (sd_tup (.cons (sda_ex (sd_var 4)) (fun _ => rfl) (.cons (sda_ex (sd_var 6)) (fun _ => rfl) (.cons (sda_ex (sd_bl)) (fun _ => rfl) (.nil)))))) (sda_var 2)) (fun _ _ _ _ _ => sd_var 6))) (fun _ => rfl) (.nil))))
    (sdss_cons (sds_set 7 (by decide) rfl (by first | exact Or.inl rfl | exact Or.inr rfl) (sd_callTy b_tuple rfl T.n_tuple (by decide +kernel) (.cons (sda_ex (sd_lc (own := [("_law_each", 6)]) (blkOk_by (by exact rfl)) (sdi_seq (sd_var 1)) (fun _ _ _ _ _ => sdg_name 6 (by simp) rfl (by first | exact Or.inl rfl | exact Or.inr rfl) (by first | exact Or.inl rfl | exact Or.inr rfl)) (.one fun _ _ _ _ _ => SdW.t (sdw_or (sdt_cmp c_in (sda_ex (sd_tup (.cons (sda_ex (sd_var 4)) (fun _ => rfl) (.cons (sda_ex (sd_var 6)) (fun _ => rfl) (.cons (sda_ex (sd_bl)) (fun _ => rfl) (.nil)))))) (sda_var 2)) (sdw_or1 (sdt_cmp c_in (sda_ex (sd_tup (.cons (sda_ex (sd_var 4)) (fun _ => rfl) (.cons (sda_ex (sd_var 6)) (fun _ => rfl) (.cons (sda_ex (sd_bl)) (fun _ => rfl) (.nil)))))) (sda_var 2))))) (fun _ _ _ _ _ => sd_var 6))) (fun _ => rfl) (.nil))))
    (sdss_cons (sds_if (SdW.t (sdw_or (sdt_cmp c_ne (sda_ex (sd_methO 0 .nil (MOC.mf rfl M_by_hand hr (by decide)) (by decide +kernel) rfl (by first | exact Or.inl rfl | exact Or.inr (Or.inl rfl) | exact Or.inr (Or.inr rfl)) (.cons (sda_var 4) (fun _ => rfl) (.nil)))) (sda_var 5)) (sdw_or1 (sdt_cmp c_ne (sda_ex (sd_methO 0 .nil (MOC.mf rfl M_standings_of hr (by decide)) (by decide +kernel) rfl (by first | exact Or.inl rfl | exact Or.inr (Or.inl rfl) | exact Or.inr (Or.inr rfl)) (.cons (sda_var 4) (fun _ => rfl) (.nil)))) (sda_var 7))))) (sdss_one (sds_ret (sd_bl))) (sdss_nil))
    (sdss_cons (sds_if (SdW.t (sdw_or (sdt_not (sdt_tru (sda_ex (sd_isi (T := "tuple") (by unfold fiveTy; simp) rfl T.n_isinstance rfl T.n_tuple (by decide +kernel) (sda_ex (sd_methO 0 .nil (MOC.mf rfl M_by_hand hr (by decide)) (by decide +kernel) rfl (by first | exact Or.inl rfl | exact Or.inr (Or.inl rfl) | exact Or.inr (Or.inr rfl)) (.cons (sda_var 4) (fun _ => rfl) (.nil)))) (fun _ => rfl))))) (sdw_or1 (sdt_not (sdt_tru (sda_ex (sd_isi (T := "tuple") (by unfold fiveTy; simp) rfl T.n_isinstance rfl T.n_tuple (by decide +kernel) (sda_ex (sd_methO 0 .nil (MOC.mf rfl M_standings_of hr (by decide)) (by decide +kernel) rfl (by first | exact Or.inl rfl | exact Or.inr (Or.inl rfl) | exact Or.inr (Or.inr rfl)) (.cons (sda_var 4) (fun _ => rfl) (.nil)))) (fun _ => rfl)))))))) (sdss_one (sds_ret (sd_bl))) (sdss_nil))
    (sdss_one (sds_if (sdt_cmp c_ne (sda_ex (sd_inO 0 (SOC.sf rfl S_contains hr (by decide)) (sda_var 4) rfl (by first | exact Or.inl rfl | exact Or.inr (Or.inl rfl) | exact Or.inr (Or.inr rfl)))) (sda_ex (sd_cmp c_ne (sda_var 7) (sda_ex (sd_tup (.nil)))))) (sdss_one (sds_ret (sd_bl))) (sdss_nil))))))))
    (sdss_cons (sds_set 8 (by decide) rfl (by first | exact Or.inl rfl | exact Or.inr rfl) (sd_callB b_sorted rfl T.n_sorted (by decide +kernel) (.cons (sda_ex (sd_lc (own := [("_law_one", 4)]) (blkOk_by (by exact rfl)) (sdi_seq (sd_var 3)) (fun _ _ _ _ _ => sdg_name 4 (by simp) rfl (by first | exact Or.inl rfl | exact Or.inr rfl) (by first | exact Or.inl rfl | exact Or.inr rfl)) (.one fun _ _ _ _ _ => sdt_cmp c_ne (sda_ex (sd_lc (own := [("_law_gift", 9)]) (blkOk_by (by exact rfl)) (sdi_seq (sd_var 2)) (fun _ _ _ _ _ => sdg_name 9 (by simp) rfl (by first | exact Or.inl rfl | exact Or.inr rfl) (by first | exact Or.inl rfl | exact Or.inr rfl)) (.one fun _ _ _ _ _ => sdt_cmp c_eq (sda_ex (sd_ix (sda_var 9) (sda_ex (sd_int)))) (sda_var 4)) (fun _ _ _ _ _ => sd_var 9))) (sda_ex (sd_lst (.nil)))) (fun _ _ _ _ _ => sd_var 4))) (fun _ => rfl) (.nil))))
    (sdss_one (sds_ret (sd_and (sd_isi (T := "list") (by unfold fiveTy; simp) rfl T.n_isinstance rfl T.n_list (by decide +kernel) (sda_ex (sd_meth0O 0 (MOC.mf rfl M_names hr (by decide)) (by decide +kernel) rfl (by first | exact Or.inl rfl | exact Or.inr (Or.inl rfl) | exact Or.inr (Or.inr rfl)))) (fun _ => rfl)) (sd_and (sd_cmp c_eq (sda_ex (sd_meth0O 0 (MOC.mf rfl M_names hr (by decide)) (by decide +kernel) rfl (by first | exact Or.inl rfl | exact Or.inr (Or.inl rfl) | exact Or.inr (Or.inr rfl)))) (sda_var 8)) (sd_one (sd_cmp c_eq (sda_ex (sd_lenO 0 (SOC.sf rfl S_len hr (by decide)) rfl T.n_len rfl (by first | exact Or.inl rfl | exact Or.inr (Or.inl rfl) | exact Or.inr (Or.inr rfl)))) (sda_ex (sd_callB b_len rfl T.n_len (by decide +kernel) (.cons (sda_var 8) (fun _ => rfl) (.nil)))))))))))

abbrev s_law_given : Stmt := topS 14
theorem sc_law_given : FnScope ["_law_table", "_law_gift"] ["_law_table", "_law_gift"] (defScope s_law_given) := ⟨rfl, rfl, rfl, by decide +kernel, rfl, by decide +kernel, by decide +kernel⟩
def b_law_given : Es (gam K C) := mSeq (mIfS (mT (.ex (m2 pIx (.brw 1) (.ex (mC (.int 2)))))) (mRet (mMethO 4 f_SE_give 0 [.ex (m2 pIx (.brw 1) (.ex (mC (.int 0)))), .ex (m2 pIx (.brw 1) (.ex (mC (.int 1)))), .ex (mC (.bl true))] [])) (mNx))
    (mRet (mMethO 4 f_SE_give 0 [.ex (m2 pIx (.brw 1) (.ex (mC (.int 0)))), .ex (m2 pIx (.brw 1) (.ex (mC (.int 1))))] [.bl false]))
def f_law_given : Fn (gam K C) := mFun 2 0 [] b_law_given
theorem d_law_given {f : Addr} {fd : FuncData} (F : Fun K "_law_given" "_law_given" s_law_given f fd) (T : Tx K C mg) (K_give : KOC K C P w mg base "give" 4 f_SE_give ["standing", "by_hand"] 2 1) (D_give : MOC K C P w mg base "give" 4 f_SE_give [.bl false] 1) : FnOk P w K mg base CX0 2 f fd ["_law_table", "_law_gift"] (spG (gam K C) 2 f_law_given) := by
  refine fn_okG (Γ := gam K C) (k := 1) (A := []) (body := b_law_given) F sc_law_given rfl rfl rfl fun cdv Ar outer s H E hr => ?_
  unfold b_law_given
  exact sdss_cons (sds_if (sdt_tru (sda_ex (sd_ix (sda_var 1) (sda_ex (sd_int))))) (sdss_one (sds_ret (sd_methKO 0 (KOC.mf rfl K_give hr (by decide)) (by decide +kernel) rfl (by first | exact Or.inl rfl | exact Or.inr (Or.inl rfl) | exact Or.inr (Or.inr rfl)) (.cons (sda_ex (sd_ix (sda_var 1) (sda_ex (sd_int)))) (fun _ => rfl) (.cons (sda_ex (sd_ix (sda_var 1) (sda_ex (sd_int)))) (fun _ => rfl) (.cons (sda_ex (sd_bl)) (fun _ => rfl) (.nil)))) rfl rfl))) (sdss_nil))
    (sdss_one (sds_ret (sd_methO 0 (.bl .nil) (MOC.mf rfl D_give hr (by decide)) (by decide +kernel) rfl (by first | exact Or.inl rfl | exact Or.inr (Or.inl rfl) | exact Or.inr (Or.inr rfl)) (.cons (sda_ex (sd_ix (sda_var 1) (sda_ex (sd_int)))) (fun _ => rfl) (.cons (sda_ex (sd_ix (sda_var 1) (sda_ex (sd_int)))) (fun _ => rfl) (.nil))))))

abbrev s_law_bool : Stmt := topS 15
theorem sc_law_bool : FnScope ["_law_told_here", "_law_due"] ["_law_told_here", "_law_due"] (defScope s_law_bool) := ⟨rfl, rfl, rfl, by decide +kernel, rfl, by decide +kernel, by decide +kernel⟩
def b_law_bool : Es (gam K C) := mRet (mAndV (m1 (pIsi "bool") (.brw 0)) (m2 pEq (.brw 0) (.brw 1)))
def f_law_bool : Fn (gam K C) := mFun 2 0 [] b_law_bool
theorem d_law_bool {f : Addr} {fd : FuncData} (F : Fun K "_law_bool" "_law_bool" s_law_bool f fd) (T : Tx K C mg) : FnOk P w K mg base CX0 1 f fd ["_law_told_here", "_law_due"] (spG (gam K C) 2 f_law_bool) := by
  refine fn_okG (Γ := gam K C) (k := 0) (A := []) (body := b_law_bool) F sc_law_bool rfl rfl rfl fun cdv Ar outer s H E hr => ?_
  unfold b_law_bool
  exact sdss_one (sds_ret (sd_and (sd_isi (T := "bool") (by unfold fiveTy; simp) rfl T.n_isinstance rfl T.n_bool (by decide +kernel) (sda_var 0) (fun _ => rfl)) (sd_one (sd_cmp c_eq (sda_var 0) (sda_var 1)))))

abbrev s_law_bent : Stmt := topS 16
theorem sc_law_bent : FnScope ["_law_one", "_law_bent_here"] ["_law_one"] (defScope s_law_bent) := ⟨rfl, rfl, rfl, by decide +kernel, rfl, by decide +kernel, by decide +kernel⟩
def b_law_bent : Es (gam K C) := mSeq (mSet 1 (mN pLstN [.ex (m2 pAdd (.brw 0) (.ex (mC (.str " ")))), .ex (mFrz (m2 pAdd (.ex (mC (.str " "))) (.brw 0))), .ex (mRepl 0 " at " " by "), .ex (mRepl 0 " at " " at  "), .ex (mFrz (m2 pAdd (.brw 0) (.ex (mC (.str " at a")))))]))
    (mRet (m2 pAdd (.brw 1) (.ex (mN pLstN [.ex (mRepl 0 " " ""), .ex (mFrz (m2 pAdd (.ex (m2 pAdd (.ex (m2 pSl2 (.brw 0) (.ex (mC (.int 1))))) (.ex (mC (.str "1"))))) (.ex (m2 pSl1 (.brw 0) (.ex (mC (.int 1))))))), .ex (mRepl 0 " at " " At "), .ex (mFrz (mN pLstN [.ex (mVar 0)])), .ex (mN pTupN [.ex (mVar 0), .ex (mVar 0)])]))))
def f_law_bent : Fn (gam K C) := mFun 1 1 [1] b_law_bent
theorem d_law_bent {f : Addr} {fd : FuncData} (F : Fun K "_law_bent" "_law_bent" s_law_bent f fd) (T : Tx K C mg) : FnOk P w K mg base CX0 1 f fd ["_law_one"] (spG (gam K C) 1 f_law_bent) := by
  refine fn_okG (Γ := gam K C) (k := 0) (A := [1]) (body := b_law_bent) F sc_law_bent rfl rfl rfl fun cdv Ar outer s H E hr => ?_
  unfold b_law_bent
  exact sdss_tok 1 (by decide) rfl (by first | exact Or.inl rfl | exact Or.inr rfl) (sdu_addC 0) (fun _ => rfl) (.cons (sdT (sd_frz (sd_add (sda_ex (sd_str)) (sda_var 0)))) (fun _ => rfl) (.cons (sdT_repl 0 (by decide +kernel)) (fun _ => rfl) (.cons (sdT_repl 0 (by decide +kernel)) (fun _ => rfl) (.cons (sdT (sd_frz (sd_add (sda_var 0) (sda_ex (sd_str))))) (fun _ => rfl) (.nil)))))
    (sdssT_ret (sdT_add (sda_var 1) (sdT_lst (.cons (sdT_repl 0 (by decide +kernel)) (fun _ => rfl) (.cons (sdT (sd_frz (sd_add (sda_ex (sd_add (sda_ex (sd_slHi (sda_var 0) (sda_ex (sd_int)))) (sda_ex (sd_str)))) (sda_ex (sd_slLo (sda_var 0) (sda_ex (sd_int))))))) (fun _ => rfl) (.cons (sdT_repl 0 (by decide +kernel)) (fun _ => rfl) (.cons (sdT (sd_frz (sd_lst (.cons (sda_ex (sd_var 0)) (fun _ => rfl) (.nil))))) (fun _ => rfl) (.cons (sdT (sd_tup (.cons (sda_ex (sd_var 0)) (fun _ => rfl) (.cons (sda_ex (sd_var 0)) (fun _ => rfl) (.nil))))) (fun _ => rfl) (.nil)))))))))

abbrev s_law_none : Stmt := topS 17
theorem sc_law_none : FnScope ["_law_things", "_law_one"] ["_law_things"] (defScope s_law_none) := ⟨rfl, rfl, rfl, by decide +kernel, rfl, by decide +kernel, by decide +kernel⟩
def b_law_none : Es (gam K C) := mRet (m2 pEq (.ex (mLc (iSeq (mVar 0)) [1] (gNm 1) (toT (m2 pIsNot (.ex (mCall 1 f_is_sender [.brw 1])) (.ex (mC (.bl false))))) (mVar 1))) (.ex (mN pLstN [])))
def f_law_none : Fn (gam K C) := mFun 1 1 [] b_law_none
theorem d_law_none {f : Addr} {fd : FuncData} (F : Fun K "_law_none" "_law_none" s_law_none f fd) (T : Tx K C mg) (C_is_sender : Ca (gam K C) P w mg base "is_sender" 1 f_is_sender 2) : FnOk P w K mg base CX0 3 f fd ["_law_things"] (spG (gam K C) 1 f_law_none) := by
  refine fn_okG (Γ := gam K C) (k := 2) (A := []) (body := b_law_none) F sc_law_none rfl rfl rfl fun cdv Ar outer s H E hr => ?_
  unfold b_law_none
  exact sdss_one (sds_ret (sd_cmp c_eq (sda_ex (sd_lc (own := [("_law_one", 1)]) (blkOk_by (by exact rfl)) (sdi_seq (sd_var 0)) (fun _ _ _ _ _ => sdg_name 1 (by simp) rfl (by first | exact Or.inl rfl | exact Or.inr rfl) (by first | exact Or.inl rfl | exact Or.inr rfl)) (.one fun _ _ _ _ _ => sdt_cmp c_isn (sda_ex (sd_call (Ca.df rfl C_is_sender hr (by decide)) rfl (.cons (sda_var 1) (fun _ => rfl) (.nil)))) (sda_ex (sd_bl))) (fun _ _ _ _ _ => sd_var 1))) (sda_ex (sd_lst (.nil)))))

abbrev s_law_filled : Stmt := topS 18
theorem sc_law_filled : FnScope ["_law_table", "_law_order", "_law_row", "_law_senders", "_law_gifts", "_law_gift"] ["_law_table", "_law_order", "_law_row", "_law_senders"] (defScope s_law_filled) := ⟨rfl, rfl, rfl, by decide +kernel, rfl, by decide +kernel, by decide +kernel⟩
def b_law_filled : Es (gam K C) := mSeq (mSet 4 (mN pLstN []))
    (mSeq (mFor (iSeq (mVar 2)) (gNm 5)
    (mSeq (mIfS (mNotT (mT (.ex (mCall 2 f_law_bool [.ex (mCall 2 f_law_given [.brw 0, .brw 5]), .ex (m2 pNotIn (.brw 5) (.brw 4))])))) (mRet (mC (.bl false))) (mNx))
    (mSeq (mDrop (mMut 4 uAppend [.ex (mVar 5)]))
    (mIfS (mNotT (mT (.ex (mCall 4 (lend 2 f_law_told) [.brw 0, .brw 1, .brw 4, .brw 3])))) (mRet (mC (.bl false))) (mNx)))))
    (mRet (mC (.bl true))))
def f_law_filled : Fn (gam K C) := mFun 4 2 [4, 5] b_law_filled
theorem d_law_filled {f : Addr} {fd : FuncData} (F : Fun K "_law_filled" "_law_filled" s_law_filled f fd) (T : Tx K C mg) (C_law_bool : Ca (gam K C) P w mg base "_law_bool" 2 f_law_bool 1) (C_law_given : Ca (gam K C) P w mg base "_law_given" 2 f_law_given 2) (L_law_told : Ca (gam K C) P w mg base "_law_told" 4 (lend 2 f_law_told) 4) : FnOk P w K mg base CX0 5 f fd ["_law_table", "_law_order", "_law_row", "_law_senders"] (spG (gam K C) 4 f_law_filled) := by
  refine fn_okG (Γ := gam K C) (k := 4) (A := [4, 5]) (body := b_law_filled) F sc_law_filled rfl rfl rfl fun cdv Ar outer s H E hr => ?_
  unfold b_law_filled
  exact sdss_cons (sds_set 4 (by decide) rfl (by first | exact Or.inl rfl | exact Or.inr rfl) (sd_lst (.nil)))
    (sdss_cons (sds_for PassesOwn.never (sdi_seq (sd_var 2)) (sdg_name 5 (by decide) rfl (by first | exact Or.inl rfl | exact Or.inr rfl) (by first | exact Or.inl rfl | exact Or.inr rfl))
    (sdss_cons (sds_if (sdt_not (sdt_tru (sda_ex (sd_call (Ca.df rfl C_law_bool hr (by decide)) rfl (.cons (sda_ex (sd_call (Ca.df rfl C_law_given hr (by decide)) rfl (.cons (sda_var 0) (fun _ => rfl) (.cons (sda_var 5) (fun _ => rfl) (.nil))))) (fun _ => rfl) (.cons (sda_ex (sd_cmp c_ni (sda_var 5) (sda_var 4))) (fun _ => rfl) (.nil))))))) (sdss_one (sds_ret (sd_bl))) (sdss_nil))
    (sdss_cons (sds_expr (sd_mut 4 PySem.F.slot_list_append PySem.F.type_list_append mt_append uAppend_ok rfl (by first | exact Or.inl rfl | exact Or.inr (Or.inl rfl) | exact Or.inr (Or.inr rfl)) (.cons (sda_ex (sd_var 5)) (fun _ => rfl) (.nil))))
    (sdss_one (sds_if (sdt_not (sdt_tru (sda_ex (sd_call (Ca.df rfl L_law_told hr (by decide)) rfl (.cons (sda_var 0) (fun _ => rfl) (.cons (sda_var 1) (fun _ => rfl) (.cons (sda_var 4) (fun _ => rfl) (.cons (sda_var 3) (fun _ => rfl) (.nil))))))))) (sdss_one (sds_ret (sd_bl))) (sdss_nil))))))
    (sdss_one (sds_ret (sd_bl))))

abbrev s_law : Stmt := topS 19
theorem sc_law : FnScope ["_law_script", "_law_at", "_law_bag_here", "_law_names_here", "_law_order", "_law_senders", "_law_row", "_law_one", "_law_lap", "_law_given_here", "_law_near", "_law_far", "_law_told_here"] ["_law_script"] (defScope s_law) := ⟨rfl, rfl, rfl, by decide +kernel, rfl, by decide +kernel, by decide +kernel⟩
def b_law : Es (gam K C) := mSeq (mFor (iRng (mN (pN2 pMax2) [.ex (mC (.int 1)), .ex (mN (pN2 pMin2) [.ex (mC (.int 3)), .ex (mN (pN1 pLen) [.brw 0])])])) (gNm 1)
    (mSeq (mSet 2 (mCall 2 f_law_bag [.brw 0, .brw 1]))
    (mSeq (mSet 3 (mCall 2 f_law_names [.brw 2, .ex (mC (.int 5))]))
    (mSeq (mPar3 4 5 6 (m2 pSl2 (.brw 3) (.ex (m2 pAdd (.ex (mC (.int 1))) (.ex (mCall 2 f_law_take [.brw 2, .ex (mC (.int 2))]))))) (mN pLstN []) (mN pLstN []))
    (mSeq (mIfS (toT (m2 pEq (.ex (mCall 2 f_law_take [.brw 2, .ex (mC (.int 2))])) (.ex (mC (.int 1))))) (mSet 4 (m1 pRev (.brw 4))) (mNx))
    (mSeq (mFor (iSeq (mFrz (m2 pSl2 (.brw 3) (.ex (mC (.int 2)))))) (gNm 7)
    (mSet 5 (m2 pAdd (.brw 5) (.ex (mN pLstN [.ex (mFrz (m2 pAdd (.ex (m2 pAdd (.brw 7) (.ex (mC (.str " at "))))) (.ex (m2 pIx (.brw 3) (.ex (mC (.int 1))))))), .ex (mFrz (m2 pAdd (.ex (m2 pAdd (.brw 7) (.ex (mC (.str " at "))))) (.ex (m2 pIx (.brw 3) (.ex (mC (.int 2)))))))])))))
    (mSeq (mFor (iRng (mCall 2 f_law_take [.brw 2, .ex (mC (.int 25))])) (gNm 8)
    (mDrop (mMut 6 uAppend [.ex (mN pTupN [.ex (mFrz (mCall 2 f_law_of [.brw 2, .brw 5])), .ex (mFrz (mCall 2 f_law_of [.brw 2, .brw 4])), .ex (m2 pEq (.ex (mCall 2 f_law_take [.brw 2, .ex (mC (.int 2))])) (.ex (mC (.int 1))))])])))
    (mSeq (mSet 9 (mN (pN1 pList) [.brw 4]))
    (mSeq (mPar 10 11 (mMakeO f_SE_init [.brw 9]) (mMakeO f_SE_init [.ex (mN (pN1 pTuple) [.brw 4])]))
    (mSeq (mDrop (mMut 9 uReverse []))
    (mSeq (mIfS (mOrT (mNotT (mT (.ex (mCall 4 f_law_filled [.brw 10, .brw 4, .brw 6, .brw 5])))) (mNotT (mT (.ex (mCall 4 f_law_told [.brw 11, .brw 4, .ex (mN pLstN []), .brw 5]))))) (mRet (mC (.bl false))) (mNx))
    (mSeq (mIfS (mNotT (mT (.ex (mCall 4 f_law_filled [.brw 11, .brw 4, .ex (m1 pRev (.brw 6)), .brw 5])))) (mRet (mC (.bl false))) (mNx))
    (mSeq (mSet 12 (mMethO 1 (thaw f_SE_names) 10 [] []))
    (mSeq (mDrop (mMut 12 uAppend [.ex (mC (.str "zz"))]))
    (mSeq (mIfS (mOrT (mNotT (mT (.ex (mCall 4 f_law_told [.brw 10, .brw 4, .brw 6, .brw 5])))) (mNotT (mT (.ex (mCall 4 f_law_told [.brw 11, .brw 4, .brw 6, .brw 5]))))) (mRet (mC (.bl false))) (mNx))
    (mIfS (toT (m2 pNe (.ex (mLc (iSeq (mVar 5)) [7] (gNm 7) (mOrT (toT (m2 pIsNot (.ex (mCall 1 f_is_sender [.brw 7])) (.ex (mC (.bl true))))) (mNotT (mT (.ex (mCall 1 f_law_none [.ex (mCall 1 f_law_bent [.brw 7])]))))) (mVar 7))) (.ex (mN pLstN [])))) (mRet (mC (.bl false))) (mNx)))))))))))))))))
    (mSeq (mIfS (mOrT (toT (m2 pIsNot (.ex (mCall 1 f_is_sender [.ex (mC (.str "at at at"))])) (.ex (mC (.bl true))))) (toT (m2 pIsNot (.ex (mCall 1 f_is_sender [.ex (mC (.str "abcdefgh at abcdefgh"))])) (.ex (mC (.bl true)))))) (mRet (mC (.bl false))) (mNx))
    (mRet (mCall 1 f_law_none [.ex (mN pLstN [.ex (mC (.str "")), .ex (mC (.str "at")), .ex (mC (.str " at ")), .ex (mC (.str "a at ")), .ex (mC (.str "abcdefghi at b")), .ex (mC .non), .ex (mC (.int 5)), .ex (mC (.bl true))])])))
def f_law : Fn (gam K C) := mFun 1 12 [1, 2, 3, 4, 5, 6, 7, 8, 9, 10, 11, 12] b_law
theorem d_law {f : Addr} {fd : FuncData} (F : Fun K "law" "law" s_law f fd) (T : Tx K C mg) (C_law_bag : Ca (gam K C) P w mg base "_law_bag" 2 f_law_bag 1) (C_law_names : Ca (gam K C) P w mg base "_law_names" 2 f_law_names 3) (C_law_take : Ca (gam K C) P w mg base "_law_take" 2 f_law_take 1) (C_law_of : Ca (gam K C) P w mg base "_law_of" 2 f_law_of 2) (V_SE : VOC K C P w mg base "Senders" f_SE_init 1) (C_law_told : Ca (gam K C) P w mg base "_law_told" 4 f_law_told 4) (C_law_filled : Ca (gam K C) P w mg base "_law_filled" 4 f_law_filled 5) (M_names : MOC K C P w mg base "names" 1 (thaw f_SE_names) [] 1) (C_law_none : Ca (gam K C) P w mg base "_law_none" 1 f_law_none 3) (C_law_bent : Ca (gam K C) P w mg base "_law_bent" 1 f_law_bent 1) (C_is_sender : Ca (gam K C) P w mg base "is_sender" 1 f_is_sender 2) : FnOk P w K mg base CX0 6 f fd ["_law_script"] (spG (gam K C) 1 f_law) := by
  refine fn_okG (Γ := gam K C) (k := 5) (A := [1, 2, 3, 4, 5, 6, 7, 8, 9, 10, 11, 12]) (body := b_law) F sc_law rfl rfl rfl fun cdv Ar outer s H E hr => ?_
  unfold b_law
  exact sdss_cons (sds_for PassesOwn.never (sdi_range rfl T.n_range (sd_callB b_max rfl T.n_max (by decide +kernel) (.cons (sda_ex (sd_int)) (fun _ => rfl) (.cons (sda_ex (sd_callB b_min rfl T.n_min (by decide +kernel) (.cons (sda_ex (sd_int)) (fun _ => rfl) (.cons (sda_ex (sd_callB b_len rfl T.n_len (by decide +kernel) (.cons (sda_var 0) (fun _ => rfl) (.nil)))) (fun _ => rfl) (.nil))))) (fun _ => rfl) (.nil)))) (fun _ => rfl)) (sdg_name 1 (by decide) rfl (by first | exact Or.inl rfl | exact Or.inr rfl) (by first | exact Or.inl rfl | exact Or.inr rfl))
    (sdss_cons (sds_set 2 (by decide) rfl (by first | exact Or.inl rfl | exact Or.inr rfl) (sd_call (Ca.df rfl C_law_bag hr (by decide)) rfl (.cons (sda_var 0) (fun _ => rfl) (.cons (sda_var 1) (fun _ => rfl) (.nil)))))
    (sdss_cons (sds_set 3 (by decide) rfl (by first | exact Or.inl rfl | exact Or.inr rfl) (sd_call (Ca.df rfl C_law_names hr (by decide)) rfl (.cons (sda_var 2) (fun _ => rfl) (.cons (sda_ex (sd_int)) (fun _ => rfl) (.nil)))))
    (sdss_cons (sds_par3 (i := 4) (j := 5) (l := 6) (by decide) (by decide) (by decide) rfl rfl rfl (by decide) (by decide) (by decide) rfl rfl rfl (sd_slHi (sda_var 3) (sda_ex (sd_add (sda_ex (sd_int)) (sda_ex (sd_call (Ca.df rfl C_law_take hr (by decide)) rfl (.cons (sda_var 2) (fun _ => rfl) (.cons (sda_ex (sd_int)) (fun _ => rfl) (.nil)))))))) (fun _ => rfl) (sd_lst (.nil)) (fun _ => rfl) (sd_lst (.nil)) (fun _ => rfl) rfl)
    (sdss_cons (sds_if (sdt_cmp c_eq (sda_ex (sd_call (Ca.df rfl C_law_take hr (by decide)) rfl (.cons (sda_var 2) (fun _ => rfl) (.cons (sda_ex (sd_int)) (fun _ => rfl) (.nil))))) (sda_ex (sd_int))) (sdss_one (sds_set 4 (by decide) rfl (by first | exact Or.inl rfl | exact Or.inr rfl) (sd_rev (sda_var 4)))) (sdss_nil))
    (sdss_cons (sds_for PassesOwn.never (sdi_seq (sd_frz (sd_slHi (sda_var 3) (sda_ex (sd_int))))) (sdg_name 7 (by decide) rfl (by first | exact Or.inl rfl | exact Or.inr rfl) (by first | exact Or.inl rfl | exact Or.inr rfl))
    (sdss_one (sds_set 5 (by decide) rfl (by first | exact Or.inl rfl | exact Or.inr rfl) (sd_add (sda_var 5) (sda_ex (sd_lst (.cons (sda_ex (sd_frz (sd_add (sda_ex (sd_add (sda_var 7) (sda_ex (sd_str)))) (sda_ex (sd_ix (sda_var 3) (sda_ex (sd_int))))))) (fun _ => rfl) (.cons (sda_ex (sd_frz (sd_add (sda_ex (sd_add (sda_var 7) (sda_ex (sd_str)))) (sda_ex (sd_ix (sda_var 3) (sda_ex (sd_int))))))) (fun _ => rfl) (.nil)))))))))
    (sdss_cons (sds_for PassesOwn.never (sdi_range rfl T.n_range (sd_call (Ca.df rfl C_law_take hr (by decide)) rfl (.cons (sda_var 2) (fun _ => rfl) (.cons (sda_ex (sd_int)) (fun _ => rfl) (.nil)))) (fun _ => rfl)) (sdg_name 8 (by decide) rfl (by first | exact Or.inl rfl | exact Or.inr rfl) (by first | exact Or.inl rfl | exact Or.inr rfl))
    (sdss_one (sds_expr (sd_mut 6 PySem.F.slot_list_append PySem.F.type_list_append mt_append uAppend_ok rfl (by first | exact Or.inl rfl | exact Or.inr (Or.inl rfl) | exact Or.inr (Or.inr rfl)) (.cons (sda_ex (sd_tup (.cons (sda_ex (sd_frz (sd_call (Ca.df rfl C_law_of hr (by decide)) rfl (.cons (sda_var 2) (fun _ => rfl) (.cons (sda_var 5) (fun _ => rfl) (.nil)))))) (fun _ => rfl) (.cons (sda_ex (sd_frz (sd_call (Ca.df rfl C_law_of hr (by decide)) rfl (.cons (sda_var 2) (fun _ => rfl) (.cons (sda_var 4) (fun _ => rfl) (.nil)))))) (fun _ => rfl) (.cons (sda_ex (sd_cmp c_eq (sda_ex (sd_call (Ca.df rfl C_law_take hr (by decide)) rfl (.cons (sda_var 2) (fun _ => rfl) (.cons (sda_ex (sd_int)) (fun _ => rfl) (.nil))))) (sda_ex (sd_int)))) (fun _ => rfl) (.nil)))))) (fun _ => rfl) (.nil))))))
    (sdss_cons (sds_set 9 (by decide) rfl (by first | exact Or.inl rfl | exact Or.inr rfl) (sd_callTy b_list rfl T.n_list (by decide +kernel) (.cons (sda_var 4) (fun _ => rfl) (.nil))))
    (sdss_cons ((by first | exact sds_par (i := 10) (j := 11) (by decide) (by decide) rfl rfl (by decide) rfl rfl (sd_makeO (VOC.v rfl V_SE hr (by decide)) rfl (.cons (sda_var 9) (fun _ => rfl) (.nil))) (fun _ => rfl) (sd_makeO (VOC.v rfl V_SE hr (by decide)) rfl (.cons (sda_ex (sd_callTy b_tuple rfl T.n_tuple (by decide +kernel) (.cons (sda_var 4) (fun _ => rfl) (.nil)))) (fun _ => rfl) (.nil))) (fun _ => rfl) rfl | exact sds_parC (i := 10) (j := 11) (by decide) (by decide) rfl rfl (by decide) (by first | exact Or.inl rfl | exact Or.inr rfl) (by first | exact Or.inl rfl | exact Or.inr rfl) (by first | exact Or.inl rfl | exact Or.inr rfl) (by first | exact Or.inl rfl | exact Or.inr rfl) (sd_makeO (VOC.v rfl V_SE hr (by decide)) rfl (.cons (sda_var 9) (fun _ => rfl) (.nil))) (fun _ => rfl) (sd_makeO (VOC.v rfl V_SE hr (by decide)) rfl (.cons (sda_ex (sd_callTy b_tuple rfl T.n_tuple (by decide +kernel) (.cons (sda_var 4) (fun _ => rfl) (.nil)))) (fun _ => rfl) (.nil))) (fun _ => rfl)))
    (sdss_cons (sds_expr (sd_mut0 9 PySem.F.slot_list_reverse PySem.F.type_list_reverse mt_reverse uReverse_ok rfl (by first | exact Or.inl rfl | exact Or.inr (Or.inl rfl) | exact Or.inr (Or.inr rfl))))
    (sdss_cons (sds_if (SdW.t (sdw_or (sdt_not (sdt_tru (sda_ex (sd_call (Ca.df rfl C_law_filled hr (by decide)) rfl (.cons (sda_var 10) (fun _ => rfl) (.cons (sda_var 4) (fun _ => rfl) (.cons (sda_var 6) (fun _ => rfl) (.cons (sda_var 5) (fun _ => rfl) (.nil))))))))) (sdw_or1 (sdt_not (sdt_tru (sda_ex (sd_call (Ca.df rfl C_law_told hr (by decide)) rfl (.cons (sda_var 11) (fun _ => rfl) (.cons (sda_var 4) (fun _ => rfl) (.cons (sda_ex (sd_lst (.nil))) (fun _ => rfl) (.cons (sda_var 5) (fun _ => rfl) (.nil)))))))))))) (sdss_one (sds_ret (sd_bl))) (sdss_nil))
    (sdss_cons (sds_if (sdt_not (sdt_tru (sda_ex (sd_call (Ca.df rfl C_law_filled hr (by decide)) rfl (.cons (sda_var 11) (fun _ => rfl) (.cons (sda_var 4) (fun _ => rfl) (.cons (sda_ex (sd_rev (sda_var 6))) (fun _ => rfl) (.cons (sda_var 5) (fun _ => rfl) (.nil))))))))) (sdss_one (sds_ret (sd_bl))) (sdss_nil))
    (sdss_cons (sds_set 12 (by decide) rfl (by first | exact Or.inl rfl | exact Or.inr rfl) (sd_meth0O 10 (MOC.mf rfl M_names hr (by decide)) (by decide +kernel) rfl (by first | exact Or.inl rfl | exact Or.inr (Or.inl rfl) | exact Or.inr (Or.inr rfl))))
    (sdss_cons (sds_expr (sd_mut 12 PySem.F.slot_list_append PySem.F.type_list_append mt_append uAppend_ok rfl (by first | exact Or.inl rfl | exact Or.inr (Or.inl rfl) | exact Or.inr (Or.inr rfl)) (.cons (sda_ex (sd_str)) (fun _ => rfl) (.nil))))
    (sdss_cons (sds_if (SdW.t (sdw_or (sdt_not (sdt_tru (sda_ex (sd_call (Ca.df rfl C_law_told hr (by decide)) rfl (.cons (sda_var 10) (fun _ => rfl) (.cons (sda_var 4) (fun _ => rfl) (.cons (sda_var 6) (fun _ => rfl) (.cons (sda_var 5) (fun _ => rfl) (.nil))))))))) (sdw_or1 (sdt_not (sdt_tru (sda_ex (sd_call (Ca.df rfl C_law_told hr (by decide)) rfl (.cons (sda_var 11) (fun _ => rfl) (.cons (sda_var 4) (fun _ => rfl) (.cons (sda_var 6) (fun _ => rfl) (.cons (sda_var 5) (fun _ => rfl) (.nil)))))))))))) (sdss_one (sds_ret (sd_bl))) (sdss_nil))
    (sdss_one (sds_if (sdt_cmp c_ne (sda_ex (sd_lc (own := [("_law_one", 7)]) (blkOk_by (by exact rfl)) (sdi_seq (sd_var 5)) (fun _ _ _ _ _ => sdg_name 7 (by simp) rfl (by first | exact Or.inl rfl | exact Or.inr rfl) (by first | exact Or.inl rfl | exact Or.inr rfl)) (.one fun _ _ _ _ _ => SdW.t (sdw_or (sdt_cmp c_isn (sda_ex (sd_call (Ca.df rfl C_is_sender hr (by decide)) rfl (.cons (sda_var 7) (fun _ => rfl) (.nil)))) (sda_ex (sd_bl))) (sdw_or1 (sdt_not (sdt_tru (sda_ex (sd_call (Ca.df rfl C_law_none hr (by decide)) rfl (.cons (sda_ex (sd_call (Ca.df rfl C_law_bent hr (by decide)) rfl (.cons (sda_var 7) (fun _ => rfl) (.nil)))) (fun _ => rfl) (.nil))))))))) (fun _ _ _ _ _ => sd_var 7))) (sda_ex (sd_lst (.nil)))) (sdss_one (sds_ret (sd_bl))) (sdss_nil))))))))))))))))))
    (sdss_cons (sds_if (SdW.t (sdw_or (sdt_cmp c_isn (sda_ex (sd_call (Ca.df rfl C_is_sender hr (by decide)) rfl (.cons (sda_ex (sd_str)) (fun _ => rfl) (.nil)))) (sda_ex (sd_bl))) (sdw_or1 (sdt_cmp c_isn (sda_ex (sd_call (Ca.df rfl C_is_sender hr (by decide)) rfl (.cons (sda_ex (sd_str)) (fun _ => rfl) (.nil)))) (sda_ex (sd_bl)))))) (sdss_one (sds_ret (sd_bl))) (sdss_nil))
    (sdss_one (sds_ret (sd_call (Ca.df rfl C_law_none hr (by decide)) rfl (.cons (sda_ex (sd_lst (.cons (sda_ex (sd_str)) (fun _ => rfl) (.cons (sda_ex (sd_str)) (fun _ => rfl) (.cons (sda_ex (sd_str)) (fun _ => rfl) (.cons (sda_ex (sd_str)) (fun _ => rfl) (.cons (sda_ex (sd_str)) (fun _ => rfl) (.cons (sda_ex (sd_non)) (fun _ => rfl) (.cons (sda_ex (sd_int)) (fun _ => rfl) (.cons (sda_ex (sd_bl)) (fun _ => rfl) (.nil))))))))))) (fun _ => rfl) (.nil))))))
end
end K

/-! names for the bodies of loops, by gen21.py -/
namespace K
open PySem L2 G S
section
variable {K : PySem.W.Frag} {C : Addr}
def lb_SE_standings_of_0 : Ev (gam K C) := (mVar 3)
theorem bb_SE_standings_of : b_SE_standings_of (K := K) (C := C) = mSeq (mSet 2 (m2 pAdd (.ex (mRow true 0 1)) (.ex (mRow false 0 1))))
    (mRet (mN (pN1 pTuple) [.ex (mLc (iSeq (mOrd 0)) [3] (gNm 3) (toT (m2 pIn (.brw 3) (.brw 2))) lb_SE_standings_of_0)])) := rfl
def lb_SE_by_hand_0 : Ev (gam K C) := (mVar 3)
theorem bb_SE_by_hand : b_SE_by_hand (K := K) (C := C) = mSeq (mSet 2 (mRow true 0 1))
    (mRet (mN (pN1 pTuple) [.ex (mLc (iSeq (mOrd 0)) [3] (gNm 3) (toT (m2 pIn (.brw 3) (.brw 2))) lb_SE_by_hand_0)])) := rfl
def lb_is_name_0 : Ev (gam K C) := (m2 pIn (.brw 1) (.ex (mC (.str "abcdefghijklmnopqrstuvwxyz"))))
theorem bb_is_name : b_is_name (K := K) (C := C) = mSeq (mIfS (mNotT (mT (.ex (m1 (pIsi "str") (.brw 0))))) (mRet (mC (.bl false))) (mNx))
    (mSeq (mIfS (mNotT (toT (mChain pLe pLe (.ex (mC (.int 1))) (mN (pN1 pLen) [.brw 0]) (.ex (mC (.int 8)))))) (mRet (mC (.bl false))) (mNx))
    (mRet (mN (pN1 pAll) [.ex (mLc (iTxt (mVar 0)) [1] (gNm 1) (fun env => some (true, env)) lb_is_name_0)]))) := rfl
def lb_law_bag_0 : Es (gam K C) := (mSet 3 (m2 pMod (.ex (mN (pN1 pInt) [.ex (m2 pAdd (.ex (m2 pAdd (.ex (m2 pAdd (.ex (m2 pMul (.brw 3) (.ex (mC (.int 48611))))) (.ex (m2 pMod (.ex (mN (pN1 pInt) [.brw 5])) (.ex (mC (.int 2147483543))))))) (.ex (m2 pMul (.ex (mC (.int 271))) (.brw 4))))) (.ex (mC (.int 29))))])) (.ex (mC (.int 2147483563)))))
theorem bb_law_bag : b_law_bag (K := K) (C := C) = mSeq (mSet 2 (mIf (toT (m2 pLt (.brw 1) (.ex (mN (pN1 pLen) [.brw 0])))) (m2 pIx (.brw 0) (.brw 1)) (mC (.int 0))))
    (mSeq (mSet 3 (m2 pAdd (.ex (m2 pMul (.ex (mC (.int 7919))) (.brw 1))) (.ex (mC (.int 1301)))))
    (mSeq (mFor (iEnu (mFrz (m2 pSl2 (.brw 0) (.ex (mC (.int 63)))))) (gTp [gNm 4, gNm 5])
    lb_law_bag_0)
    (mRet (mN pLstN [.ex (mFrz (mIf (toT (m2 pGe (.ex (mN (pN1 pAbs) [.brw 2])) (.ex (m2 pPow (.ex (mC (.int 10))) (.ex (mC (.int 18))))))) (mN (pN1 pAbs) [.brw 2]) (mC (.int 0)))), .ex (mVar 3)])))) := rfl
def lb_law_names_0 : Ev (gam K C) := (m2 pIx (.brw 2) (.ex (mCall 2 f_law_take [.brw 0, .ex (mC (.int 26))])))
def lb_law_names_1 : Ev (gam K C) := (m2 pIx (.brw 2) (.ex (m2 pMod (.ex (m2 pAdd (.brw 5) (.ex (m2 pMul (.ex (mC (.int 7))) (.brw 4))))) (.ex (mC (.int 26))))))
def lb_law_names_2 : Ev (gam K C) := (mFrz (mIf (mT (.brw 6)) (m2 pAdd (.brw 3) (.brw 8)) (m2 pAdd (.brw 8) (.brw 3))))
theorem bb_law_names : b_law_names (K := K) (C := C) = mSeq (mSet 2 (mC (.str "abcdefghijklmnopqrstuvwxyz")))
    (mSeq (mSet 3 (mM1 pJoin (mC (.str "")) (.ex (mLc (iRng (mCall 2 f_law_of [.brw 0, .ex (mN pLstN [.ex (mC (.int 0)), .ex (mC (.int 0)), .ex (mC (.int 2)), .ex (mC (.int 7))])])) [4] (gNm 4) (fun env => some (true, env)) lb_law_names_0))))
    (mSeq (mPar 5 6 (mCall 2 f_law_take [.brw 0, .ex (mC (.int 26))]) (mCall 2 f_law_take [.brw 0, .ex (mC (.int 2))]))
    (mSeq (mSet 7 (mLc (iRng (mVar 1)) [4] (gNm 4) (fun env => some (true, env)) lb_law_names_1))
    (mRet (mLc (iSeq (mVar 7)) [8] (gNm 8) (fun env => some (true, env)) lb_law_names_2))))) := rfl
def lb_law_told_0 : Ev (gam K C) := (mVar 6)
def lb_law_told_1 : Ev (gam K C) := (mVar 6)
def lb_law_told_2 : Ev (gam K C) := (mVar 4)
def lb_law_told_3 : Ev (gam K C) := (mVar 9)
def lb_law_told_4 : Es (gam K C) := (mSeq (mSet 5 (mN (pN1 pTuple) [.ex (mLc (iSeq (mVar 1)) [6] (gNm 6) (toT (m2 pIn (.ex (mN pTupN [.ex (mVar 4), .ex (mVar 6), .ex (mC (.bl true))])) (.brw 2))) lb_law_told_0)]))
    (mSeq (mSet 7 (mN (pN1 pTuple) [.ex (mLc (iSeq (mVar 1)) [6] (gNm 6) (mOrT (toT (m2 pIn (.ex (mN pTupN [.ex (mVar 4), .ex (mVar 6), .ex (mC (.bl true))])) (.brw 2))) (toT (m2 pIn (.ex (mN pTupN [.ex (mVar 4), .ex (mVar 6), .ex (mC (.bl false))])) (.brw 2)))) lb_law_told_1)]))
    (mSeq (mIfS (mOrT (toT (m2 pNe (.ex (mMethO 2 (thaw f_SE_by_hand) 0 [.brw 4] [])) (.brw 5))) (toT (m2 pNe (.ex (mMethO 2 (thaw f_SE_standings_of) 0 [.brw 4] [])) (.brw 7)))) (mRet (mC (.bl false))) (mNx))
    (mSeq (mIfS (mOrT (mNotT (mT (.ex (m1 (pIsi "tuple") (.ex (mMethO 2 (thaw f_SE_by_hand) 0 [.brw 4] [])))))) (mNotT (mT (.ex (m1 (pIsi "tuple") (.ex (mMethO 2 (thaw f_SE_standings_of) 0 [.brw 4] []))))))) (mRet (mC (.bl false))) (mNx))
    (mIfS (toT (m2 pNe (.ex (mInO (thaw f_SE_contains) (.brw 4) 0)) (.ex (m2 pNe (.brw 7) (.ex (mN pTupN [])))))) (mRet (mC (.bl false))) (mNx))))))
theorem bb_law_told : b_law_told (K := K) (C := C) = mSeq (mFor (iSeq (mVar 3)) (gNm 4)
    lb_law_told_4)
    (mSeq (mSet 8 (mN (pN1 pSorted) [.ex (mLc (iSeq (mVar 3)) [4] (gNm 4) (toT (m2 pNe (.ex (mLc (iSeq (mVar 2)) [9] (gNm 9) (toT (m2 pEq (.ex (m2 pIx (.brw 9) (.ex (mC (.int 0))))) (.brw 4))) lb_law_told_3)) (.ex (mN pLstN [])))) lb_law_told_2)]))
    (mRet (mAndV (m1 (pIsi "list") (.ex (mMethO 1 (thaw f_SE_names) 0 [] []))) (mAndV (m2 pEq (.ex (mMethO 1 (thaw f_SE_names) 0 [] [])) (.brw 8)) (m2 pEq (.ex (mLenO (thaw f_SE_len) 0)) (.ex (mN (pN1 pLen) [.brw 8]))))))) := rfl
def lb_law_none_0 : Ev (gam K C) := (mVar 1)
theorem bb_law_none : b_law_none (K := K) (C := C) = mRet (m2 pEq (.ex (mLc (iSeq (mVar 0)) [1] (gNm 1) (toT (m2 pIsNot (.ex (mCall 1 f_is_sender [.brw 1])) (.ex (mC (.bl false))))) lb_law_none_0)) (.ex (mN pLstN []))) := rfl
def lb_law_filled_0 : Es (gam K C) := (mSeq (mIfS (mNotT (mT (.ex (mCall 2 f_law_bool [.ex (mCall 2 f_law_given [.brw 0, .brw 5]), .ex (m2 pNotIn (.brw 5) (.brw 4))])))) (mRet (mC (.bl false))) (mNx))
    (mSeq (mDrop (mMut 4 uAppend [.ex (mVar 5)]))
    (mIfS (mNotT (mT (.ex (mCall 4 (lend 2 f_law_told) [.brw 0, .brw 1, .brw 4, .brw 3])))) (mRet (mC (.bl false))) (mNx))))
theorem bb_law_filled : b_law_filled (K := K) (C := C) = mSeq (mSet 4 (mN pLstN []))
    (mSeq (mFor (iSeq (mVar 2)) (gNm 5)
    lb_law_filled_0)
    (mRet (mC (.bl true)))) := rfl
def lb_law_0 : Ev (gam K C) := (mVar 7)
def lb_law_1 : Es (gam K C) := (mSeq (mSet 2 (mCall 2 f_law_bag [.brw 0, .brw 1]))
    (mSeq (mSet 3 (mCall 2 f_law_names [.brw 2, .ex (mC (.int 5))]))
    (mSeq (mPar3 4 5 6 (m2 pSl2 (.brw 3) (.ex (m2 pAdd (.ex (mC (.int 1))) (.ex (mCall 2 f_law_take [.brw 2, .ex (mC (.int 2))]))))) (mN pLstN []) (mN pLstN []))
    (mSeq (mIfS (toT (m2 pEq (.ex (mCall 2 f_law_take [.brw 2, .ex (mC (.int 2))])) (.ex (mC (.int 1))))) (mSet 4 (m1 pRev (.brw 4))) (mNx))
    (mSeq (mFor (iSeq (mFrz (m2 pSl2 (.brw 3) (.ex (mC (.int 2)))))) (gNm 7)
    (mSet 5 (m2 pAdd (.brw 5) (.ex (mN pLstN [.ex (mFrz (m2 pAdd (.ex (m2 pAdd (.brw 7) (.ex (mC (.str " at "))))) (.ex (m2 pIx (.brw 3) (.ex (mC (.int 1))))))), .ex (mFrz (m2 pAdd (.ex (m2 pAdd (.brw 7) (.ex (mC (.str " at "))))) (.ex (m2 pIx (.brw 3) (.ex (mC (.int 2)))))))])))))
    (mSeq (mFor (iRng (mCall 2 f_law_take [.brw 2, .ex (mC (.int 25))])) (gNm 8)
    (mDrop (mMut 6 uAppend [.ex (mN pTupN [.ex (mFrz (mCall 2 f_law_of [.brw 2, .brw 5])), .ex (mFrz (mCall 2 f_law_of [.brw 2, .brw 4])), .ex (m2 pEq (.ex (mCall 2 f_law_take [.brw 2, .ex (mC (.int 2))])) (.ex (mC (.int 1))))])])))
    (mSeq (mSet 9 (mN (pN1 pList) [.brw 4]))
    (mSeq (mPar 10 11 (mMakeO f_SE_init [.brw 9]) (mMakeO f_SE_init [.ex (mN (pN1 pTuple) [.brw 4])]))
    (mSeq (mDrop (mMut 9 uReverse []))
    (mSeq (mIfS (mOrT (mNotT (mT (.ex (mCall 4 f_law_filled [.brw 10, .brw 4, .brw 6, .brw 5])))) (mNotT (mT (.ex (mCall 4 f_law_told [.brw 11, .brw 4, .ex (mN pLstN []), .brw 5]))))) (mRet (mC (.bl false))) (mNx))
    (mSeq (mIfS (mNotT (mT (.ex (mCall 4 f_law_filled [.brw 11, .brw 4, .ex (m1 pRev (.brw 6)), .brw 5])))) (mRet (mC (.bl false))) (mNx))
    (mSeq (mSet 12 (mMethO 1 (thaw f_SE_names) 10 [] []))
    (mSeq (mDrop (mMut 12 uAppend [.ex (mC (.str "zz"))]))
    (mSeq (mIfS (mOrT (mNotT (mT (.ex (mCall 4 f_law_told [.brw 10, .brw 4, .brw 6, .brw 5])))) (mNotT (mT (.ex (mCall 4 f_law_told [.brw 11, .brw 4, .brw 6, .brw 5]))))) (mRet (mC (.bl false))) (mNx))
    (mIfS (toT (m2 pNe (.ex (mLc (iSeq (mVar 5)) [7] (gNm 7) (mOrT (toT (m2 pIsNot (.ex (mCall 1 f_is_sender [.brw 7])) (.ex (mC (.bl true))))) (mNotT (mT (.ex (mCall 1 f_law_none [.ex (mCall 1 f_law_bent [.brw 7])]))))) lb_law_0)) (.ex (mN pLstN [])))) (mRet (mC (.bl false))) (mNx))))))))))))))))
theorem bb_law : b_law (K := K) (C := C) = mSeq (mFor (iRng (mN (pN2 pMax2) [.ex (mC (.int 1)), .ex (mN (pN2 pMin2) [.ex (mC (.int 3)), .ex (mN (pN1 pLen) [.brw 0])])])) (gNm 1)
    lb_law_1)
    (mSeq (mIfS (mOrT (toT (m2 pIsNot (.ex (mCall 1 f_is_sender [.ex (mC (.str "at at at"))])) (.ex (mC (.bl true))))) (toT (m2 pIsNot (.ex (mCall 1 f_is_sender [.ex (mC (.str "abcdefgh at abcdefgh"))])) (.ex (mC (.bl true)))))) (mRet (mC (.bl false))) (mNx))
    (mRet (mCall 1 f_law_none [.ex (mN pLstN [.ex (mC (.str "")), .ex (mC (.str "at")), .ex (mC (.str " at ")), .ex (mC (.str "a at ")), .ex (mC (.str "abcdefghi at b")), .ex (mC .non), .ex (mC (.int 5)), .ex (mC (.bl true))])]))) := rfl
end
end K

/-! M21c: loops, draws (by take22.py) -/
namespace K
open PySem L2 G S
section
variable {Γ : Gam}
theorem seq_nx {f g : Es Γ} {env e1 : Env Γ} (h : f env = some (.nx, e1)) : mSeq f g env = g e1 := by unfold mSeq; rw [h]
theorem seq_rt {f g : Es Γ} {env e1 : Env Γ} {s : Sl Γ} (h : f env = some (.rt s, e1)) : mSeq f g env = some (.rt s, e1) := by unfold mSeq; rw [h]
theorem set_eq {i : Nat} {f : Ev Γ} {env e1 : Env Γ} {s : Sl Γ} (h : f env = some (s, e1)) (hi : i < e1.length) : mSet i f env = some (.nx, e1.set i s) := by unfold mSet; rw [h]; exact if_pos hi
theorem par_eq {i j : Nat} {f g : Ev Γ} {env e1 e2 : Env Γ} {s t : Sl Γ} (h : f env = some (s, e1)) (h' : g e1 = some (t, e2)) (hi : i < e2.length) (hj : j < e2.length) : mPar i j f g env = some (.nx, (e2.set i s).set j t) := by unfold mPar; rw [h]; simp only [h']; exact if_pos ⟨hi, hj⟩
theorem ifs_t {c : Et Γ} {f g : Es Γ} {env e1 : Env Γ} (h : c env = some (true, e1)) : mIfS c f g env = f e1 := by unfold mIfS; rw [h]
theorem ifs_f {c : Et Γ} {f g : Es Γ} {env e1 : Env Γ} (h : c env = some (false, e1)) : mIfS c f g env = g e1 := by unfold mIfS; rw [h]
theorem ret_eq {f : Ev Γ} {env e1 : Env Γ} {s : Sl Γ} (h : f env = some (s, e1)) : mRet f env = some (.rt s, e1) := by unfold mRet; rw [h]; rfl
theorem drop_eq {f : Ev Γ} {env e1 : Env Γ} {s : Sl Γ} (h : f env = some (s, e1)) : mDrop f env = some (.nx, e1) := by unfold mDrop; rw [h]; rfl
theorem for_eq {fi : Ei Γ} {t : Eg Γ} {g : Es Γ} {env e1 e2 : Env Γ} {ds : List G.D} {fl : Fl Γ} (h : fi env = some (ds, e1)) (h' : forL t g ds e1 = some (fl, e2)) : mFor fi t g env = some (fl, e2) := by unfold mFor; rw [h]; exact h'
theorem fun_rt {np loc : Nat} {A : List Nat} {body : Es Γ} {args e' : Env Γ} {s : Sl Γ} (h1 : args.length = np) (h2 : ((A.filter (· < np)).all fun i => match args[i]? with | some s => nonOwn s | none => true) = true) (hb : body (args ++ List.replicate loc .none) = some (.rt s, e')) :
    mFun np loc A body args = some (s, backE args (e'.take np) (A.filter (· < np))) := by unfold mFun; rw [if_pos ⟨h1, h2⟩, hb]
theorem forL_run {t : Eg Γ} {g : Es Γ} (I : List G.D → Env Γ → Prop) (st : ∀ d ds env, I (d :: ds) env → ∃ e1 e2, t d env = some e1 ∧ g e1 = some (.nx, e2) ∧ I ds e2) :
    ∀ (ds : List G.D) (env : Env Γ), I ds env → ∃ e, forL t g ds env = some (.nx, e) ∧ I [] e
  | [], env, h => ⟨env, rfl, h⟩
  | d :: ds, env, h => by
    obtain ⟨e1, e2, h1, h2, h3⟩ := st d ds env h
    obtain ⟨e, h4, h5⟩ := forL_run I st ds e2 h3
    refine ⟨e, ?_, h5⟩
    unfold forL
    rw [h1]
    simp only [h2]
    exact h4
theorem okD_int (i : Int) : okD (.int i) = true := by simp [okD, D.toPy, SeqAt.shaped, PyData.canLay0, PyData.depth]
theorem okD_bl (b : Bool) : okD (.bl b) = true := by simp [okD, D.toPy, SeqAt.shaped, PyData.canLay0, PyData.depth]
theorem okD_non : okD .non = true := by simp [okD, D.toPy, SeqAt.shaped, PyData.canLay0, PyData.depth]
theorem okD_str {x : Str} (h : PyData.strOk x = true) : okD (.str x) = true := by simp [okD, D.toPy, SeqAt.shaped, PyData.canLay0, PyData.depth, h]
theorem eqD_int (i j : Int) : eqD (.int i) (.int j) = decide (i = j) := by simp [eqD, D.toPy, PyData.eqv]; rw [Bool.beq_eq_decide_eq]
theorem eqD_str (i j : Str) : eqD (.str i) (.str j) = decide (i = j) := by simp [eqD, D.toPy, PyData.eqv]; rw [Bool.beq_eq_decide_eq]
theorem eqD_bl (i j : Bool) : eqD (.bl i) (.bl j) = decide (i = j) := by simp [eqD, D.toPy, PyData.eqv]; rw [Bool.beq_eq_decide_eq]
theorem allInt_map (ns : List Int) : allInt (ns.map G.D.int) = some ns := by
  induction ns with
  | nil => rfl
  | cons n ns ih => rw [List.map_cons]; unfold allInt; rw [ih]; rfl
/-- a list, owned or let go of -/
def isL (s : Sl Γ) (ds : List G.D) : Prop := s = .lst ds ∨ s = .dat (.lst ds)
theorem cut_take (ds : List G.D) (k : Nat) : cutD ds none (some (k : Int)) = ds.take k := by
  unfold cutD
  rw [HT.sIx_nat, HT.sIx_none, List.drop_zero, Nat.sub_zero]
  by_cases h : k ≤ ds.length
  · rw [Nat.min_eq_left h]
  · rw [Nat.min_eq_right (by omega), List.take_of_length_le (by omega), List.take_of_length_le (by omega)]
theorem cut_drop (ds : List G.D) (k : Nat) : cutD ds (some (k : Int)) none = ds.drop k := by
  unfold cutD
  rw [HT.sIx_nat, HT.sIx_none]
  by_cases h : k ≤ ds.length
  · rw [Nat.min_eq_left h, List.take_of_length_le (by rw [List.length_drop]; omega)]
  · rw [Nat.min_eq_right (by omega), List.drop_of_length_le (by omega), List.drop_of_length_le (by omega)]
    simp
theorem okD_ints (ns : List Int) : okD (.lst (ns.map G.D.int)) = true := by
  have h : PyData.canLayAll0 (D.toPys (ns.map G.D.int)) = true ∧ PyData.depthAll (D.toPys (ns.map G.D.int)) = 0 := by
    induction ns with
    | nil => exact ⟨rfl, rfl⟩
    | cons n ns ih =>
      rw [List.map_cons]
      unfold D.toPys
      simp [PyData.canLayAll0, PyData.depthAll, D.toPy, PyData.canLay0, PyData.depth, ih.1, ih.2]
  simp [okD, D.toPy, SeqAt.shaped, PyData.canLay0, PyData.depth, h.1, h.2]
theorem eqD_ints (ns : List Int) : eqD (.lst (ns.map G.D.int)) (.lst (ns.map G.D.int)) = true := by
  have h : PyData.eqvAll (D.toPys (ns.map G.D.int)) (D.toPys (ns.map G.D.int)) = true := by
    induction ns with
    | nil => rfl
    | cons n ns ih =>
      rw [List.map_cons]
      unfold D.toPys
      simp [PyData.eqvAll, D.toPy, PyData.eqv, ih]
  simp [eqD, D.toPy, PyData.eqv, h]
theorem erase_perm {α : Type} : ∀ (l : List α) (r : Nat) (h : r < l.length), (l[r] :: l.eraseIdx r).Perm l
  | [], _, h => absurd h (by simp)
  | a :: l, 0, _ => List.Perm.refl _
  | a :: l, r + 1, h => by
    have h' : r < l.length := by simpa using h
    have ih := erase_perm l r h'
    show (l[r] :: a :: l.eraseIdx r).Perm (a :: l)
    exact (List.Perm.swap a l[r] (l.eraseIdx r)).trans (ih.cons a)
theorem allStr_map (ys : List Str) : allStr (ys.map G.D.str) = some ys := by
  induction ys with
  | nil => rfl
  | cons n ns ih => rw [List.map_cons]; unfold allStr; rw [ih]; rfl
theorem m1_ex {p : Sl Γ → Option (Sl Γ)} {f : Ev Γ} {env e1 : Env Γ} {s u : Sl Γ} (h1 : f env = some (s, e1)) (h3 : p s = some u) : m1 p (.ex f) env = some (u, e1) := by
  simp only [m1, evA, h1, Option.map_some, peek, h3]
theorem m2_ex {p : Sl Γ → Sl Γ → Option (Sl Γ)} {f g : Ev Γ} {env e1 e2 : Env Γ} {s t u : Sl Γ} (h1 : f env = some (s, e1)) (h2 : g e1 = some (t, e2)) (h3 : p s t = some u) : m2 p (.ex f) (.ex g) env = some (u, e2) := by
  simp only [m2, evA, h1, h2, Option.map_some, peek, h3]
theorem m2_eb {p : Sl Γ → Sl Γ → Option (Sl Γ)} {f : Ev Γ} {i : Nat} {env e1 : Env Γ} {s t u : Sl Γ} (h1 : f env = some (s, e1)) (h2 : got e1[i]? = some t) (h3 : p s t = some u) : m2 p (.ex f) (.brw i) env = some (u, e1) := by
  simp only [m2, evA, h1, h2, Option.map_some, peek, h3]
theorem m2_be {p : Sl Γ → Sl Γ → Option (Sl Γ)} {g : Ev Γ} {i : Nat} {env e1 : Env Γ} {s s' t u : Sl Γ} (h0 : got env[i]? = some s') (h1 : g env = some (t, e1)) (h2 : got e1[i]? = some s) (h3 : p s t = some u) : m2 p (.brw i) (.ex g) env = some (u, e1) := by
  simp only [m2, evA, h0, h1, h2, Option.map_some, peek, h3]
end
section
variable {K : PySem.W.Frag} {C : Addr}
def bag (i j : Int) : Sl (gam K C) := .lst [.int i, .int j]
theorem eval_take (i j m : Int) (h0 : 0 < m) (h1 : m < 2 ^ 200) : ∃ r i' j', 0 ≤ r ∧ r < m ∧ f_law_take (K := K) (C := C) [bag i j, .dat (.int m)] = some (.dat (.int r), [bag i' j', .dat (.int m)]) := by
  have h1' := h1
  simp at h1'
  by_cases hi : 0 < i
  · refine ⟨i % m, i / m, j, Int.emod_nonneg _ (by omega), Int.emod_lt_of_pos _ h0, ?_⟩
    simp [mFun, mSeq, mIfS, toT, m1, m2, mN, evA, evAs, got, peek, peeks, pEq, pNe, pEqG, pLt, pLe, pGt, pGe, pOrd, pIx, Sl.view, mC, mVar, mRet, mNx, mSet, mDrop, mNotT, mNotE, mNotV, mAndT, mOrT, mAndV, mOrV, mIf, mT, truth, db, di, atI, ixN, okD_int, okD_bl, okD_non, eqD_int, eqD_str, eqD_bl, nonOwn, backE, List.replicate, mRetMv, mQ2, mQ1, mQ, evQ, getP, Fd.sl, G.keyOf, pDIn, pDNotIn, pDInG, pDGet, mDPut, setD, mFSet, mMv, Sl.fd, putFd, pTupN, allDat, mDNew, iSeq, mFor, forL, gTp, gNm, gAll, f_law_take, b_law_take, bag, hi, pN1, pInt, pMod, pI, cMod, h0, mSetIx, pDiv, cDiv, h1']
  · refine ⟨((j * 39373 + 7121) % 2147483587 / 23 * 30269) % 2147483549 / 61 % m, i, (j * 39373 + 7121) % 2147483587, Int.emod_nonneg _ (by omega), Int.emod_lt_of_pos _ h0, ?_⟩
    simp [mFun, mSeq, mIfS, toT, m1, m2, mN, evA, evAs, got, peek, peeks, pEq, pNe, pEqG, pLt, pLe, pGt, pGe, pOrd, pIx, Sl.view, mC, mVar, mRet, mNx, mSet, mDrop, mNotT, mNotE, mNotV, mAndT, mOrT, mAndV, mOrV, mIf, mT, truth, db, di, atI, ixN, okD_int, okD_bl, okD_non, eqD_int, eqD_str, eqD_bl, nonOwn, backE, List.replicate, mRetMv, mQ2, mQ1, mQ, evQ, getP, Fd.sl, G.keyOf, pDIn, pDNotIn, pDInG, pDGet, mDPut, setD, mFSet, mMv, Sl.fd, putFd, pTupN, allDat, mDNew, iSeq, mFor, forL, gTp, gNm, gAll, f_law_take, b_law_take, bag, hi, pN1, pInt, pMod, pI, cMod, h0, mSetIx, pDiv, cDiv, h1', pMul, cMul, pAdd]
theorem call_take (i j m : Int) (h0 : 0 < m) (h1 : m < 2 ^ 200) : ∃ r i' j', 0 ≤ r ∧ r < m ∧ ∀ rest : Env (gam K C), mCall 2 f_law_take [.brw 0, .ex (mC (.int m))] (bag i j :: rest) = some (.dat (.int r), bag i' j' :: rest) := by
  obtain ⟨r, i', j', a, b, e⟩ := eval_take (K := K) (C := C) i j m h0 h1
  refine ⟨r, i', j', a, b, fun rest => ?_⟩
  unfold bag at e ⊢
  simp [mFun, mSeq, mIfS, toT, m1, m2, mN, evA, evAs, got, peek, peeks, pEq, pNe, pEqG, pLt, pLe, pGt, pGe, pOrd, pIx, Sl.view, mC, mVar, mRet, mNx, mSet, mDrop, mNotT, mNotE, mNotV, mAndT, mOrT, mAndV, mOrV, mIf, mT, truth, db, di, atI, ixN, okD_int, okD_bl, okD_non, eqD_int, eqD_str, eqD_bl, nonOwn, backE, List.replicate, mRetMv, mQ2, mQ1, mQ, evQ, getP, Fd.sl, G.keyOf, pDIn, pDNotIn, pDInG, pDGet, mDPut, setD, mFSet, mMv, Sl.fd, putFd, pTupN, allDat, mDNew, iSeq, mFor, forL, gTp, gNm, gAll, mCall, takeA, putA, e]
theorem eval_of (i j : Int) (ds : List G.D) (a : Sl (gam K C)) (ha : isL a ds) (hn : ds ≠ []) (hl : ds.length < 2 ^ 60) : ∃ d i' j', d ∈ ds ∧ f_law_of (K := K) (C := C) [bag i j, a] = some (.dat d, [bag i' j', a]) := by
  have hp : 0 < ds.length := List.length_pos_iff.mpr hn
  obtain ⟨r, i', j', r0, r1, e⟩ := eval_take (K := K) (C := C) i j ds.length (by omega) (by
    have : ((ds.length : Nat) : Int) < 2 ^ 60 := by exact_mod_cast hl
    omega)
  have hr : r.toNat < ds.length := by omega
  refine ⟨ds[r.toNat], i', j', List.getElem_mem hr, ?_⟩
  have ix : atI ds r = some ds[r.toNat] := by
    unfold atI ixN
    rw [if_pos r0, if_pos r1]
    simp [hr]
  unfold bag at e ⊢
  rcases ha with rfl | rfl
  · simp [f_law_of, b_law_of, mFun, mRet, m2, evA, got, peek, mCall, evAs, mN, peeks, pN1, pLen, Sl.view, di, takeA, putA, nonOwn, e, pIx, ix, backE]
  · simp [f_law_of, b_law_of, mFun, mRet, m2, evA, got, peek, mCall, evAs, mN, peeks, pN1, pLen, Sl.view, di, takeA, putA, nonOwn, e, pIx, ix, backE]
theorem step_bag (m k e : Int) (a0 a1 a2 s4 s5 : Sl (gam K C)) : ∃ m', lb_law_bag_0 [a0, a1, a2, .dat (.int m), .dat (.int k), .dat (.int e)] = some (.nx, [a0, a1, a2, .dat (.int m'), .dat (.int k), .dat (.int e)]) := by
  refine ⟨(m * 48611 + e % 2147483543 + 271 * k + 29) % 2147483563, ?_⟩
  simp [mFun, mSeq, mIfS, toT, m1, m2, mN, evA, evAs, got, peek, peeks, pEq, pNe, pEqG, pLt, pLe, pGt, pGe, pOrd, pIx, Sl.view, mC, mVar, mRet, mNx, mSet, mDrop, mNotT, mNotE, mNotV, mAndT, mOrT, mAndV, mOrV, mIf, mT, truth, db, di, atI, ixN, okD_int, okD_bl, okD_non, eqD_int, eqD_str, eqD_bl, nonOwn, backE, List.replicate, mRetMv, mQ2, mQ1, mQ, evQ, getP, Fd.sl, G.keyOf, pDIn, pDNotIn, pDInG, pDGet, mDPut, setD, mFSet, mMv, Sl.fd, putFd, pTupN, allDat, mDNew, iSeq, mFor, forL, gTp, gNm, gAll, lb_law_bag_0, pN1, pInt, pMod, pI, cMod, pMul, cMul, pAdd]
theorem loop_bag (a0 a1 a2 : Sl (gam K C)) : ∀ (es : List Int) (k : Nat) (m : Int) (s4 s5 : Sl (gam K C)), ∃ m' b4 b5, forL (gTp [gNm 4, gNm 5]) lb_law_bag_0 (((es.map G.D.int).zipIdx k).map fun q => .tup [.int (q.2 : Nat), q.1]) [a0, a1, a2, .dat (.int m), s4, s5] = some (.nx, [a0, a1, a2, .dat (.int m'), b4, b5])
  | [], k, m, s4, s5 => ⟨m, s4, s5, rfl⟩
  | e :: es, k, m, s4, s5 => by
    obtain ⟨m1, h1⟩ := step_bag (K := K) (C := C) m k e a0 a1 a2 s4 s5
    obtain ⟨m', b4, b5, h⟩ := loop_bag a0 a1 a2 es (k + 1) m1 (.dat (.int k)) (.dat (.int e))
    refine ⟨m', b4, b5, ?_⟩
    rw [List.map_cons, List.zipIdx_cons, List.map_cons]
    unfold forL
    have tg : gTp [gNm 4, gNm 5] (.tup [.int (k : Nat), .int e]) [a0, a1, a2, .dat (.int m), s4, s5] = some [a0, a1, a2, .dat (.int m), .dat (.int k), .dat (.int e)] := by simp [gTp, gAll, gNm]
    rw [tg]
    simp only [h1]
    exact h
theorem eval_bag (ns : List Int) (k : Nat) : ∃ i j, f_law_bag (K := K) (C := C) [.scr ns, .dat (.int k)] = some (bag i j, [.scr ns, .dat (.int k)]) := by
  have c := cut_take (ns.map G.D.int) 63
  rw [← List.map_take] at c
  have c' : cutD (ns.map G.D.int) none (some 63) = (ns.take 63).map G.D.int := c
  have n0 : ∃ x : Int, mIf (toT (m2 pLt (.brw 1) (.ex (mN (pN1 pLen) [.brw 0])))) (m2 pIx (.brw 0) (.brw 1)) (mC (.int 0)) [Sl.scr (Γ := gam K C) ns, .dat (.int k), .none, .none, .none, .none] = some (.dat (.int x), [.scr ns, .dat (.int k), .none, .none, .none, .none]) := by
    by_cases h : k < ns.length
    · refine ⟨ns[k], ?_⟩
      have h' : (k : Int) < (ns.length : Int) := by exact_mod_cast h
      simp [mFun, mSeq, mIfS, toT, m1, m2, mN, evA, evAs, got, peek, peeks, pEq, pNe, pEqG, pLt, pLe, pGt, pGe, pOrd, pIx, Sl.view, mC, mVar, mRet, mNx, mSet, mDrop, mNotT, mNotE, mNotV, mAndT, mOrT, mAndV, mOrV, mIf, mT, truth, db, di, atI, ixN, okD_int, okD_bl, okD_non, eqD_int, eqD_str, eqD_bl, nonOwn, backE, List.replicate, mRetMv, mQ2, mQ1, mQ, evQ, getP, Fd.sl, G.keyOf, pDIn, pDNotIn, pDInG, pDGet, mDPut, setD, mFSet, mMv, Sl.fd, putFd, pTupN, allDat, mDNew, iSeq, mFor, forL, gTp, gNm, gAll, pN1, pLen, h', h]
    · refine ⟨0, ?_⟩
      have h' : ¬ (k : Int) < (ns.length : Int) := by exact_mod_cast h
      simp [mFun, mSeq, mIfS, toT, m1, m2, mN, evA, evAs, got, peek, peeks, pEq, pNe, pEqG, pLt, pLe, pGt, pGe, pOrd, pIx, Sl.view, mC, mVar, mRet, mNx, mSet, mDrop, mNotT, mNotE, mNotV, mAndT, mOrT, mAndV, mOrV, mIf, mT, truth, db, di, atI, ixN, okD_int, okD_bl, okD_non, eqD_int, eqD_str, eqD_bl, nonOwn, backE, List.replicate, mRetMv, mQ2, mQ1, mQ, evQ, getP, Fd.sl, G.keyOf, pDIn, pDNotIn, pDInG, pDGet, mDPut, setD, mFSet, mMv, Sl.fd, putFd, pTupN, allDat, mDNew, iSeq, mFor, forL, gTp, gNm, gAll, pN1, pLen, h', h]
  obtain ⟨x, n0⟩ := n0
  obtain ⟨m', b4, b5, lp⟩ := loop_bag (K := K) (C := C) (.scr ns) (.dat (.int k)) (.dat (.int x)) (ns.take 63) 0 (7919 * (k : Int) + 1301) .none .none
  refine ⟨if 1000000000000000000 ≤ (if x < 0 then -x else x) then (if x < 0 then -x else x) else 0, m', ?_⟩
  unfold f_law_bag
  rw [bb_law_bag]
  refine (fun_rt (e' := [.scr ns, .dat (.int k), .dat (.int x), .dat (.int m'), b4, b5]) rfl rfl ?_).trans rfl
  refine (seq_nx (set_eq n0 (by simp))).trans ?_
  have s2 : mSet 3 (m2 pAdd (.ex (m2 pMul (.ex (mC (.int 7919))) (.brw 1))) (.ex (mC (.int 1301)))) [Sl.scr (Γ := gam K C) ns, .dat (.int k), .dat (.int x), .none, .none, .none] = some (.nx, [.scr ns, .dat (.int k), .dat (.int x), .dat (.int (7919 * (k : Int) + 1301)), .none, .none]) := by
    simp [mFun, mSeq, mIfS, toT, m1, m2, mN, evA, evAs, got, peek, peeks, pEq, pNe, pEqG, pLt, pLe, pGt, pGe, pOrd, pIx, Sl.view, mC, mVar, mRet, mNx, mSet, mDrop, mNotT, mNotE, mNotV, mAndT, mOrT, mAndV, mOrV, mIf, mT, truth, db, di, atI, ixN, okD_int, okD_bl, okD_non, eqD_int, eqD_str, eqD_bl, nonOwn, backE, List.replicate, mRetMv, mQ2, mQ1, mQ, evQ, getP, Fd.sl, G.keyOf, pDIn, pDNotIn, pDInG, pDGet, mDPut, setD, mFSet, mMv, Sl.fd, putFd, pTupN, allDat, mDNew, iSeq, mFor, forL, gTp, gNm, gAll, pMul, pI, cMul, pAdd]
  refine (seq_nx s2).trans ?_
  refine (seq_nx (for_eq (by simp [iEnu, mFrz, m2, evA, got, peek, pSl2, asInt, mC, pSl, Sl.view, c', -List.map_take]) lp)).trans ?_
  have h2 : (2 : Nat) ≤ sizeLine := by decide
  by_cases hx : 1000000000000000000 ≤ (if x < 0 then -x else x)
  · simp [mFun, mSeq, mIfS, toT, m1, m2, mN, evA, evAs, got, peek, peeks, pEq, pNe, pEqG, pLt, pLe, pGt, pGe, pOrd, pIx, Sl.view, mC, mVar, mRet, mNx, mSet, mDrop, mNotT, mNotE, mNotV, mAndT, mOrT, mAndV, mOrV, mIf, mT, truth, db, di, atI, ixN, okD_int, okD_bl, okD_non, eqD_int, eqD_str, eqD_bl, nonOwn, backE, List.replicate, mRetMv, mQ2, mQ1, mQ, evQ, getP, Fd.sl, G.keyOf, pDIn, pDNotIn, pDInG, pDGet, mDPut, setD, mFSet, mMv, Sl.fd, putFd, pTupN, allDat, mDNew, iSeq, mFor, forL, gTp, gNm, gAll, pN1, pAbs, pPow, pI, cPow, mFrz, pLstN, h2, hx, bag]
  · simp [mFun, mSeq, mIfS, toT, m1, m2, mN, evA, evAs, got, peek, peeks, pEq, pNe, pEqG, pLt, pLe, pGt, pGe, pOrd, pIx, Sl.view, mC, mVar, mRet, mNx, mSet, mDrop, mNotT, mNotE, mNotV, mAndT, mOrT, mAndV, mOrV, mIf, mT, truth, db, di, atI, ixN, okD_int, okD_bl, okD_non, eqD_int, eqD_str, eqD_bl, nonOwn, backE, List.replicate, mRetMv, mQ2, mQ1, mQ, evQ, getP, Fd.sl, G.keyOf, pDIn, pDNotIn, pDInG, pDGet, mDPut, setD, mFSet, mMv, Sl.fd, putFd, pTupN, allDat, mDNew, iSeq, mFor, forL, gTp, gNm, gAll, pN1, pAbs, pPow, pI, cPow, mFrz, pLstN, h2, hx, bag]
theorem eval_bool (a b : Bool) : f_law_bool (K := K) (C := C) [.dat (.bl a), .dat (.bl b)] = some (.dat (.bl (decide (a = b))), [.dat (.bl a), .dat (.bl b)]) := by
  simp [mFun, mSeq, mIfS, toT, m1, m2, mN, evA, evAs, got, peek, peeks, pEq, pNe, pEqG, pLt, pLe, pGt, pGe, pOrd, pIx, Sl.view, mC, mVar, mRet, mNx, mSet, mDrop, mNotT, mNotE, mNotV, mAndT, mOrT, mAndV, mOrV, mIf, mT, truth, db, di, atI, ixN, okD_int, okD_bl, okD_non, eqD_int, eqD_str, eqD_bl, nonOwn, backE, List.replicate, mRetMv, mQ2, mQ1, mQ, evQ, getP, Fd.sl, G.keyOf, pDIn, pDNotIn, pDInG, pDGet, mDPut, setD, mFSet, mMv, Sl.fd, putFd, pTupN, allDat, mDNew, iSeq, mFor, forL, gTp, gNm, gAll, f_law_bool, b_law_bool, pIsi, isT]
end
end K

/-! M21d: what is_name, is_sender, the law's none and bent answer -/
namespace K
open PySem L2 G S
def abc : Str := "abcdefghijklmnopqrstuvwxyz"
theorem abc_eq : abc.cps.toList = [97, 98, 99, 100, 101, 102, 103, 104, 105, 106, 107, 108, 109, 110, 111, 112, 113, 114, 115, 116, 117, 118, 119, 120, 121, 122] := by decide +kernel
theorem abc_mem (c : Nat) : decide (c ∈ abc.cps.toList) = decide (97 ≤ c ∧ c ≤ 122) := by
  rw [abc_eq]
  by_cases h : 97 ≤ c ∧ c ≤ 122
  · rw [decide_eq_true h]
    refine decide_eq_true ?_
    have : c = 97 ∨ c = 98 ∨ c = 99 ∨ c = 100 ∨ c = 101 ∨ c = 102 ∨ c = 103 ∨ c = 104 ∨ c = 105 ∨ c = 106 ∨ c = 107 ∨ c = 108 ∨ c = 109 ∨ c = 110 ∨ c = 111 ∨ c = 112 ∨ c = 113 ∨ c = 114 ∨ c = 115 ∨ c = 116 ∨ c = 117 ∨ c = 118 ∨ c = 119 ∨ c = 120 ∨ c = 121 ∨ c = 122 := by omega
    simpa using this
  · rw [decide_eq_false h]
    refine decide_eq_false fun z => h ?_
    simp at z
    omega
def okA (a : List Nat) : Prop := (∀ c ∈ a, c < 1114112) ∧ a.length ≤ 1000
theorem ok_str {a : List Nat} (h : ∀ c ∈ a, c < 1114112) : PyData.strOk (SX.S a) = true := by
  unfold PyData.strOk
  rw [← Array.all_toList]
  exact List.all_eq_true.mpr fun c hc => decide_eq_true (h c hc)
section
variable {K : PySem.W.Frag} {C : Addr}
theorem comp_name (a0 : Sl (gam K C)) : ∀ a : List Nat, compL [1] (gNm 1) (fun env => some (true, env)) lb_is_name_0 (a.map fun c => G.D.str ⟨#[c]⟩) [a0, .none] = some (a.map fun c => G.D.bl (decide (97 ≤ c ∧ c ≤ 122)), [a0, .none])
  | [] => rfl
  | c :: a => by
    have ih := comp_name a0 a
    have hs : sIn ⟨#[c]⟩ "abcdefghijklmnopqrstuvwxyz" = decide (97 ≤ c ∧ c ≤ 122) := abc_mem c
    have el : lb_is_name_0 [a0, .dat (.str ⟨#[c]⟩)] = some (.dat (.bl (decide (97 ≤ c ∧ c ≤ 122))), [a0, .dat (.str ⟨#[c]⟩)]) := by
      simp only [lb_is_name_0, m2, evA, got, List.getElem?_cons_succ, List.getElem?_cons_zero, Option.map_some, mC, peek, pIn, pInG, Sl.view, hs, id, db]
    rw [List.map_cons]
    unfold compL
    have tg : gNm 1 (.str ⟨#[c]⟩) [a0, .none] = some [a0, .dat (.str ⟨#[c]⟩)] := by simp [gNm]
    have wp : wipeE [1] [a0, .dat (.str ⟨#[c]⟩)] = some [a0, .none] := by simp [wipeE, wipeL, nonOwn]
    rw [tg]
    simp only [el, wp, ih, Option.map_some]
    rfl
theorem allBl_map (bs : List Bool) : allBl (bs.map G.D.bl) = some bs := by
  induction bs with
  | nil => rfl
  | cons b bs ih => rw [List.map_cons]; unfold allBl; rw [ih]; rfl
theorem eval_name (a : List Nat) (hl : a.length ≤ 1000) : f_is_name (K := K) (C := C) [.dat (.str (SX.S a))] = some (.dat (.bl (nm a)), [.dat (.str (SX.S a))]) := by
  have c := comp_name (K := K) (C := C) (.dat (.str (SX.S a))) a
  have len : (SX.S a).length = a.length := SX.S_len a
  have ls : (SX.S a).length ≤ sizeLine := by rw [len]; exact Nat.le_trans hl (by decide)
  have ls' : a.length ≤ sizeLine := Nat.le_trans hl (by decide)
  have lm : (a.map fun c => G.D.str ⟨#[c]⟩).length ≤ sizeLine := by rw [List.length_map]; exact Nat.le_trans hl (by decide)
  have e2 : (a.map fun c => G.D.bl (decide (97 ≤ c ∧ c ≤ 122))) = ((a.map fun c => decide (97 ≤ c ∧ c ≤ 122)).map G.D.bl) := by rw [List.map_map]; rfl
  have ab : allBl (a.map fun c => G.D.bl (decide (97 ≤ c ∧ c ≤ 122))) = some (a.map fun c => decide (97 ≤ c ∧ c ≤ 122)) := by rw [e2]; exact allBl_map _
  have al : (a.map fun c => decide (97 ≤ c ∧ c ≤ 122)).all id = a.all fun c => decide (97 ≤ c ∧ c ≤ 122) := by rw [List.all_map]; rfl
  unfold f_is_name
  rw [bb_is_name]
  refine (fun_rt (e' := [.dat (.str (SX.S a)), .none]) rfl rfl ?_).trans rfl
  have s1 : mIfS (mNotT (mT (.ex (m1 (pIsi "str") (.brw 0))))) (mRet (mC (.bl false))) (mNx) ([.dat (.str (SX.S a))] ++ List.replicate 1 .none) = some (.nx, ([.dat (.str (SX.S a)), .none] : Env (gam K C))) := by
    simp [mFun, mSeq, mIfS, toT, m1, m2, mN, evA, evAs, got, peek, peeks, pEq, pNe, pEqG, pLt, pLe, pGt, pGe, pOrd, pIx, Sl.view, mC, mVar, mRet, mNx, mSet, mDrop, mNotT, mNotE, mNotV, mAndT, mOrT, mAndV, mOrV, mIf, mT, truth, db, di, atI, ixN, okD_int, okD_bl, okD_non, eqD_int, eqD_str, eqD_bl, nonOwn, backE, List.replicate, mRetMv, mQ2, mQ1, mQ, evQ, getP, Fd.sl, G.keyOf, pDIn, pDNotIn, pDInG, pDGet, mDPut, setD, mFSet, mMv, Sl.fd, putFd, pTupN, allDat, mDNew, iSeq, mFor, forL, gTp, gNm, gAll, pIsi, isT]
  refine (seq_nx s1).trans ?_
  by_cases h1 : 1 ≤ a.length
  · by_cases h8 : a.length ≤ 8
    · have s2 : mIfS (mNotT (toT (mChain pLe pLe (.ex (mC (.int 1))) (mN (pN1 pLen) [.brw 0]) (.ex (mC (.int 8)))))) (mRet (mC (.bl false))) (mNx) ([.dat (.str (SX.S a)), .none] : Env (gam K C)) = some (.nx, [.dat (.str (SX.S a)), .none]) := by
        have q1 : (1 : Int) ≤ (a.length : Int) := by omega
        have q8 : (a.length : Int) ≤ 8 := by omega
        simp [mFun, mSeq, mIfS, toT, m1, m2, mN, evA, evAs, got, peek, peeks, pEq, pNe, pEqG, pLt, pLe, pGt, pGe, pOrd, pIx, Sl.view, mC, mVar, mRet, mNx, mSet, mDrop, mNotT, mNotE, mNotV, mAndT, mOrT, mAndV, mOrV, mIf, mT, truth, db, di, atI, ixN, okD_int, okD_bl, okD_non, eqD_int, eqD_str, eqD_bl, nonOwn, backE, List.replicate, mRetMv, mQ2, mQ1, mQ, evQ, getP, Fd.sl, G.keyOf, pDIn, pDNotIn, pDInG, pDGet, mDPut, setD, mFSet, mMv, Sl.fd, putFd, pTupN, allDat, mDNew, iSeq, mFor, forL, gTp, gNm, gAll, mChain, pN1, pLen, len, ls', q1, q8]
      refine (seq_nx s2).trans ?_
      have e3 : nm a = a.all fun c => decide (97 ≤ c ∧ c ≤ 122) := by unfold nm; simp [h1, h8]
      rw [e3]
      refine ret_eq ?_
      have lc : mLc (iTxt (mVar 0)) [1] (gNm 1) (fun env => some (true, env)) lb_is_name_0 ([.dat (.str (SX.S a)), .none] : Env (gam K C)) = some (.lst (a.map fun c => G.D.bl (decide (97 ≤ c ∧ c ≤ 122))), [.dat (.str (SX.S a)), .none]) := by
        have it : iTxt (mVar 0) ([.dat (.str (SX.S a)), .none] : Env (gam K C)) = some (a.map fun c => G.D.str ⟨#[c]⟩, [.dat (.str (SX.S a)), .none]) := by simp [iTxt, mVar, SX.S]
        have wp : wipeE [1] ([.dat (.str (SX.S a)), .none] : Env (gam K C)) = some [.dat (.str (SX.S a)), .none] := by simp [wipeE, wipeL, nonOwn]
        unfold mLc
        rw [it]
        simp only [wp, c, if_pos lm]
        rfl
      simp only [mN, evAs, evA, lc, Option.map_some, peeks, peek, pN1, pAll, pBools, Sl.view, ab, al, db]
    · have s2 : mIfS (mNotT (toT (mChain pLe pLe (.ex (mC (.int 1))) (mN (pN1 pLen) [.brw 0]) (.ex (mC (.int 8)))))) (mRet (mC (.bl false))) (mNx) ([.dat (.str (SX.S a)), .none] : Env (gam K C)) = some (.rt (.dat (.bl false)), [.dat (.str (SX.S a)), .none]) := by
        have q1 : (1 : Int) ≤ (a.length : Int) := by omega
        have q8 : ¬ (a.length : Int) ≤ 8 := by omega
        simp [mFun, mSeq, mIfS, toT, m1, m2, mN, evA, evAs, got, peek, peeks, pEq, pNe, pEqG, pLt, pLe, pGt, pGe, pOrd, pIx, Sl.view, mC, mVar, mRet, mNx, mSet, mDrop, mNotT, mNotE, mNotV, mAndT, mOrT, mAndV, mOrV, mIf, mT, truth, db, di, atI, ixN, okD_int, okD_bl, okD_non, eqD_int, eqD_str, eqD_bl, nonOwn, backE, List.replicate, mRetMv, mQ2, mQ1, mQ, evQ, getP, Fd.sl, G.keyOf, pDIn, pDNotIn, pDInG, pDGet, mDPut, setD, mFSet, mMv, Sl.fd, putFd, pTupN, allDat, mDNew, iSeq, mFor, forL, gTp, gNm, gAll, mChain, pN1, pLen, len, ls', q1, q8]
      refine (seq_rt s2).trans ?_
      have e3 : nm a = false := by unfold nm; simp [h8]
      rw [e3]
  · have s2 : mIfS (mNotT (toT (mChain pLe pLe (.ex (mC (.int 1))) (mN (pN1 pLen) [.brw 0]) (.ex (mC (.int 8)))))) (mRet (mC (.bl false))) (mNx) ([.dat (.str (SX.S a)), .none] : Env (gam K C)) = some (.rt (.dat (.bl false)), [.dat (.str (SX.S a)), .none]) := by
      have h0 : a = [] := by cases a with | nil => rfl | cons _ _ => simp at h1
      subst h0
      simp [mFun, mSeq, mIfS, toT, m1, m2, mN, evA, evAs, got, peek, peeks, pEq, pNe, pEqG, pLt, pLe, pGt, pGe, pOrd, pIx, Sl.view, mC, mVar, mRet, mNx, mSet, mDrop, mNotT, mNotE, mNotV, mAndT, mOrT, mAndV, mOrV, mIf, mT, truth, db, di, atI, ixN, okD_int, okD_bl, okD_non, eqD_int, eqD_str, eqD_bl, nonOwn, backE, List.replicate, mRetMv, mQ2, mQ1, mQ, evQ, getP, Fd.sl, G.keyOf, pDIn, pDNotIn, pDInG, pDGet, mDPut, setD, mFSet, mMv, Sl.fd, putFd, pTupN, allDat, mDNew, iSeq, mFor, forL, gTp, gNm, gAll, mChain, pN1, pLen, len, ls']
    refine (seq_rt s2).trans ?_
    have e3 : nm a = false := by unfold nm; simp [h1]
    rw [e3]
theorem spl_mem : ∀ (l acc : List Nat) (p : List Nat), p ∈ TL.spl [32] 0 acc l → ∀ c ∈ p, c ∈ acc ∨ c ∈ l
  | [], acc, p, hp, c, hc => by
    rw [TL.spl_nil, List.mem_singleton] at hp
    subst hp
    exact .inl hc
  | d :: l, acc, p, hp, c, hc => by
    have e : TL.spl [32] 0 acc (d :: l) = if TL.pre [32] (d :: l) = true then acc :: TL.spl [32] 0 [] l else TL.spl [32] 0 (acc ++ [d]) l := rfl
    rw [e] at hp
    split at hp
    · rcases List.mem_cons.mp hp with z | z
      · subst z; exact .inl hc
      · rcases spl_mem l [] p z c hc with y | y
        · cases y
        · exact .inr (List.mem_cons_of_mem _ y)
    · rcases spl_mem l (acc ++ [d]) p hp c hc with y | y
      · rcases List.mem_append.mp y with z | z
        · exact .inl z
        · exact .inr (by rw [List.mem_singleton.mp z]; exact List.mem_cons_self)
      · exact .inr (List.mem_cons_of_mem _ y)
theorem spl_len : ∀ (l acc : List Nat) (p : List Nat), p ∈ TL.spl [32] 0 acc l → p.length ≤ acc.length + l.length
  | [], acc, p, hp => by
    rw [TL.spl_nil, List.mem_singleton] at hp
    subst hp
    simp
  | d :: l, acc, p, hp => by
    have e : TL.spl [32] 0 acc (d :: l) = if TL.pre [32] (d :: l) = true then acc :: TL.spl [32] 0 [] l else TL.spl [32] 0 (acc ++ [d]) l := rfl
    rw [e] at hp
    split at hp
    · rcases List.mem_cons.mp hp with z | z
      · subst z; omega
      · have := spl_len l [] p z
        simp at this ⊢
        omega
    · have := spl_len l (acc ++ [d]) p hp
      simp at this ⊢
      omega
theorem spc : (" " : Str) = SX.S [32] := by decide +kernel
theorem att : ("at" : Str) = SX.S [97, 116] := by decide +kernel
theorem call_name (a : List Nat) (hl : a.length ≤ 1000) (f : Ev (gam K C)) (env : Env (gam K C)) (h : f env = some (.dat (.str (SX.S a)), env)) : mCall 1 f_is_name [.ex f] env = some (.dat (.bl (nm a)), env) := by
  have e := eval_name (K := K) (C := C) a hl
  simp [mCall, evAs, evA, h, takeA, e, putA]
theorem eval_sender (a : List Nat) (h : okA a) : f_is_sender (K := K) (C := C) [.dat (.str (SX.S a))] = some (.dat (.bl (isS a)), [.dat (.str (SX.S a))]) := by
  have sp : Txt.split (SX.S a) " " = (TL.spl [32] 0 [] a).map SX.S := by rw [spc]; exact SX.split_S (by simp) (by decide)
  have l0 : ((" " : Str).length == 0) = false := by decide +kernel
  have l1 : (SX.S a).length + 2 ≤ sizeLine := by rw [SX.S_len]; exact Nat.le_trans (show a.length + 2 ≤ 1002 by have := h.2; omega) (by decide)
  unfold f_is_sender b_is_sender
  refine (fun_rt (e' := [.dat (.str (SX.S a)), .lst (((TL.spl [32] 0 [] a).map SX.S).map G.D.str)]) rfl rfl ?_).trans rfl
  have s1 : mIfS (mNotT (mT (.ex (m1 (pIsi "str") (.brw 0))))) (mRet (mC (.bl false))) (mNx) ([.dat (.str (SX.S a))] ++ List.replicate 1 .none) = some (.nx, ([.dat (.str (SX.S a)), .none] : Env (gam K C))) := by
    simp [mFun, mSeq, mIfS, toT, m1, m2, mN, evA, evAs, got, peek, peeks, pEq, pNe, pEqG, pLt, pLe, pGt, pGe, pOrd, pIx, Sl.view, mC, mVar, mRet, mNx, mSet, mDrop, mNotT, mNotE, mNotV, mAndT, mOrT, mAndV, mOrV, mIf, mT, truth, db, di, atI, ixN, okD_int, okD_bl, okD_non, eqD_int, eqD_str, eqD_bl, nonOwn, backE, List.replicate, mRetMv, mQ2, mQ1, mQ, evQ, getP, Fd.sl, G.keyOf, pDIn, pDNotIn, pDInG, pDGet, mDPut, setD, mFSet, mMv, Sl.fd, putFd, pTupN, allDat, mDNew, iSeq, mFor, forL, gTp, gNm, gAll, pIsi, isT]
  refine (seq_nx s1).trans ?_
  have s2 : mSet 1 (mM1 pSplit (mVar 0) (.ex (mC (.str " ")))) ([.dat (.str (SX.S a)), .none] : Env (gam K C)) = some (.nx, [.dat (.str (SX.S a)), .lst (((TL.spl [32] 0 [] a).map SX.S).map G.D.str)]) := by
    simp only [mSet, mM1, mVar, List.getElem?_cons_zero, evA, mC, Option.map_some, peek, pSplit, Sl.view, sp]
    rw [if_pos ⟨l0, l1⟩]
    rfl
  refine (seq_nx s2).trans ?_
  have mem : ∀ p ∈ TL.spl [32] 0 [] a, (∀ c ∈ p, c < 1114112) ∧ p.length ≤ 1000 := fun p hp => ⟨fun c hc => h.1 c ((spl_mem a [] p hp c hc).elim (fun z => nomatch z) id), by have := spl_len a [] p hp; have := h.2; simp at *; omega⟩
  unfold isS
  refine ret_eq ?_
  generalize TL.spl [32] 0 [] a = ps at mem ⊢
  have hlen : ((ps.map SX.S).map G.D.str).length = ps.length := by simp
  by_cases c3 : ps.length = 3
  · match ps, c3, mem with
    | [p, q, r], _, mem =>
      have hp := mem p (by simp)
      have hq := mem q (by simp)
      have hr := mem r (by simp)
      have oq := okD_str (ok_str hq.1)
      have oa : okD (.str ("at" : Str)) = true := okD_str (by decide +kernel)
      have eq : eqD (.str (SX.S q)) (.str ("at" : Str)) = decide (q = [97, 116]) := by
        rw [eqD_str, att]
        by_cases z : q = [97, 116]
        · subst z; simp
        · rw [decide_eq_false z]
          exact decide_eq_false fun y => z (SX.S_inj y)
      have x0 : m2 pIx (.brw 1) (.ex (mC (.int 0))) ([.dat (.str (SX.S a)), .lst (([p, q, r].map SX.S).map G.D.str)] : Env (gam K C)) = some (.dat (.str (SX.S p)), [.dat (.str (SX.S a)), .lst (([p, q, r].map SX.S).map G.D.str)]) := by simp [mFun, mSeq, mIfS, toT, m1, m2, mN, evA, evAs, got, peek, peeks, pEq, pNe, pEqG, pLt, pLe, pGt, pGe, pOrd, pIx, Sl.view, mC, mVar, mRet, mNx, mSet, mDrop, mNotT, mNotE, mNotV, mAndT, mOrT, mAndV, mOrV, mIf, mT, truth, db, di, atI, ixN, okD_int, okD_bl, okD_non, eqD_int, eqD_str, eqD_bl, nonOwn, backE, List.replicate, mRetMv, mQ2, mQ1, mQ, evQ, getP, Fd.sl, G.keyOf, pDIn, pDNotIn, pDInG, pDGet, mDPut, setD, mFSet, mMv, Sl.fd, putFd, pTupN, allDat, mDNew, iSeq, mFor, forL, gTp, gNm, gAll, ]
      have x2 : m2 pIx (.brw 1) (.ex (mC (.int 2))) ([.dat (.str (SX.S a)), .lst (([p, q, r].map SX.S).map G.D.str)] : Env (gam K C)) = some (.dat (.str (SX.S r)), [.dat (.str (SX.S a)), .lst (([p, q, r].map SX.S).map G.D.str)]) := by simp [mFun, mSeq, mIfS, toT, m1, m2, mN, evA, evAs, got, peek, peeks, pEq, pNe, pEqG, pLt, pLe, pGt, pGe, pOrd, pIx, Sl.view, mC, mVar, mRet, mNx, mSet, mDrop, mNotT, mNotE, mNotV, mAndT, mOrT, mAndV, mOrV, mIf, mT, truth, db, di, atI, ixN, okD_int, okD_bl, okD_non, eqD_int, eqD_str, eqD_bl, nonOwn, backE, List.replicate, mRetMv, mQ2, mQ1, mQ, evQ, getP, Fd.sl, G.keyOf, pDIn, pDNotIn, pDInG, pDGet, mDPut, setD, mFSet, mMv, Sl.fd, putFd, pTupN, allDat, mDNew, iSeq, mFor, forL, gTp, gNm, gAll, ]
      have n0 := call_name p hp.2 _ _ x0
      have n2 := call_name r hr.2 _ _ x2
      have t1 : m2 pEq (.ex (mN (pN1 pLen) [.brw 1])) (.ex (mC (.int 3))) ([.dat (.str (SX.S a)), .lst (([p, q, r].map SX.S).map G.D.str)] : Env (gam K C)) = some (.dat (.bl true), [.dat (.str (SX.S a)), .lst (([p, q, r].map SX.S).map G.D.str)]) := by simp [mFun, mSeq, mIfS, toT, m1, m2, mN, evA, evAs, got, peek, peeks, pEq, pNe, pEqG, pLt, pLe, pGt, pGe, pOrd, pIx, Sl.view, mC, mVar, mRet, mNx, mSet, mDrop, mNotT, mNotE, mNotV, mAndT, mOrT, mAndV, mOrV, mIf, mT, truth, db, di, atI, ixN, okD_int, okD_bl, okD_non, eqD_int, eqD_str, eqD_bl, nonOwn, backE, List.replicate, mRetMv, mQ2, mQ1, mQ, evQ, getP, Fd.sl, G.keyOf, pDIn, pDNotIn, pDInG, pDGet, mDPut, setD, mFSet, mMv, Sl.fd, putFd, pTupN, allDat, mDNew, iSeq, mFor, forL, gTp, gNm, gAll, pN1, pLen]
      have t2 : m2 pEq (.ex (m2 pIx (.brw 1) (.ex (mC (.int 1))))) (.ex (mC (.str "at"))) ([.dat (.str (SX.S a)), .lst (([p, q, r].map SX.S).map G.D.str)] : Env (gam K C)) = some (.dat (.bl (decide (q = [97, 116]))), [.dat (.str (SX.S a)), .lst (([p, q, r].map SX.S).map G.D.str)]) := by
        have x1 : m2 pIx (.brw 1) (.ex (mC (.int 1))) ([.dat (.str (SX.S a)), .lst (([p, q, r].map SX.S).map G.D.str)] : Env (gam K C)) = some (.dat (.str (SX.S q)), [.dat (.str (SX.S a)), .lst (([p, q, r].map SX.S).map G.D.str)]) := by simp [mFun, mSeq, mIfS, toT, m1, m2, mN, evA, evAs, got, peek, peeks, pEq, pNe, pEqG, pLt, pLe, pGt, pGe, pOrd, pIx, Sl.view, mC, mVar, mRet, mNx, mSet, mDrop, mNotT, mNotE, mNotV, mAndT, mOrT, mAndV, mOrV, mIf, mT, truth, db, di, atI, ixN, okD_int, okD_bl, okD_non, eqD_int, eqD_str, eqD_bl, nonOwn, backE, List.replicate, mRetMv, mQ2, mQ1, mQ, evQ, getP, Fd.sl, G.keyOf, pDIn, pDNotIn, pDInG, pDGet, mDPut, setD, mFSet, mMv, Sl.fd, putFd, pTupN, allDat, mDNew, iSeq, mFor, forL, gTp, gNm, gAll, ]
        refine m2_ex x1 (t := .dat (.str "at")) rfl ?_
        simp only [pEq, pEqG, Sl.view, oq, oa, eq, Bool.and_self, if_true, db, id]
      simp only [mAndV, t1, truth, Sl.view]
      simp only [t2, n0, n2]
      cases hd : decide (q = [97, 116]) <;> cases hpn : nm p <;> simp
  · have t1 : m2 pEq (.ex (mN (pN1 pLen) [.brw 1])) (.ex (mC (.int 3))) ([.dat (.str (SX.S a)), .lst ((ps.map SX.S).map G.D.str)] : Env (gam K C)) = some (.dat (.bl false), [.dat (.str (SX.S a)), .lst ((ps.map SX.S).map G.D.str)]) := by
      have : ¬ ((ps.length : Int) = 3) := by omega
      simp [mFun, mSeq, mIfS, toT, m1, m2, mN, evA, evAs, got, peek, peeks, pEq, pNe, pEqG, pLt, pLe, pGt, pGe, pOrd, pIx, Sl.view, mC, mVar, mRet, mNx, mSet, mDrop, mNotT, mNotE, mNotV, mAndT, mOrT, mAndV, mOrV, mIf, mT, truth, db, di, atI, ixN, okD_int, okD_bl, okD_non, eqD_int, eqD_str, eqD_bl, nonOwn, backE, List.replicate, mRetMv, mQ2, mQ1, mQ, evQ, getP, Fd.sl, G.keyOf, pDIn, pDNotIn, pDInG, pDGet, mDPut, setD, mFSet, mMv, Sl.fd, putFd, pTupN, allDat, mDNew, iSeq, mFor, forL, gTp, gNm, gAll, pN1, pLen, hlen, this, -List.map_map]
    simp only [mAndV, t1, truth, Sl.view]
    match ps, c3 with
    | [], _ => simp
    | [_], _ => simp
    | [_, _], _ => simp
    | _ :: _ :: _ :: _ :: _, _ => simp
theorem eval_sender_no (d : G.D) (h : isT "str" d = some false) : f_is_sender (K := K) (C := C) [.dat d] = some (.dat (.bl false), [.dat d]) := by
  unfold f_is_sender b_is_sender
  refine (fun_rt (e' := [.dat d, .none]) rfl rfl ?_).trans rfl
  have s1 : mIfS (mNotT (mT (.ex (m1 (pIsi "str") (.brw 0))))) (mRet (mC (.bl false))) (mNx) ([.dat d] ++ List.replicate 1 .none) = some (.rt (.dat (.bl false)), ([.dat d, .none] : Env (gam K C))) := by
    simp [mFun, mSeq, mIfS, toT, m1, m2, mN, evA, evAs, got, peek, peeks, pEq, pNe, pEqG, pLt, pLe, pGt, pGe, pOrd, pIx, Sl.view, mC, mVar, mRet, mNx, mSet, mDrop, mNotT, mNotE, mNotV, mAndT, mOrT, mAndV, mOrV, mIf, mT, truth, db, di, atI, ixN, okD_int, okD_bl, okD_non, eqD_int, eqD_str, eqD_bl, nonOwn, backE, List.replicate, mRetMv, mQ2, mQ1, mQ, evQ, getP, Fd.sl, G.keyOf, pDIn, pDNotIn, pDInG, pDGet, mDPut, setD, mFSet, mMv, Sl.fd, putFd, pTupN, allDat, mDNew, iSeq, mFor, forL, gTp, gNm, gAll, pIsi, h]
  exact seq_rt s1
theorem comp_none (a0 : Sl (gam K C)) : ∀ ds : List G.D, (∀ d ∈ ds, f_is_sender (K := K) (C := C) [.dat d] = some (.dat (.bl false), [.dat d])) → compL [1] (gNm 1) (toT (m2 pIsNot (.ex (mCall 1 f_is_sender [.brw 1])) (.ex (mC (.bl false))))) lb_law_none_0 ds [a0, .none] = some ([], [a0, .none])
  | [], _ => rfl
  | d :: ds, h => by
    have ih := comp_none a0 ds fun x hx => h x (List.mem_cons_of_mem _ hx)
    have e := h d List.mem_cons_self
    unfold compL
    have tg : gNm 1 d [a0, .none] = some [a0, .dat d] := by simp [gNm]
    have wp : wipeE [1] [a0, .dat d] = some [a0, .none] := by simp [wipeE, wipeL, nonOwn]
    have ca : mCall 1 f_is_sender [.brw 1] [a0, .dat d] = some (.dat (.bl false), [a0, .dat d]) := by
      simp [mCall, evAs, evA, got, takeA, nonOwn, e, putA]
    have tc : toT (m2 pIsNot (.ex (mCall 1 f_is_sender [.brw 1])) (.ex (mC (.bl false)))) [a0, .dat d] = some (false, [a0, .dat d]) := by
      simp only [toT, m2, evA, ca, Option.map_some, mC, peek, pIsNot, pIsG, decide_true, Bool.not_true, db]
    rw [tg]
    simp only [tc, wp]
    exact ih
theorem eval_none (ds : List G.D) (hl : ds.length ≤ 1000) (h : ∀ d ∈ ds, f_is_sender (K := K) (C := C) [.dat d] = some (.dat (.bl false), [.dat d])) : f_law_none (K := K) (C := C) [.lst ds] = some (.dat (.bl true), [.dat (.lst ds)]) := by
  have c := comp_none (K := K) (C := C) (.dat (.lst ds)) ds h
  have lm : ds.length ≤ sizeLine := Nat.le_trans hl (by decide)
  have z0 : (0 : Nat) ≤ sizeLine := Nat.zero_le _
  have o0 : okD (.lst []) = true := okD_ints []
  have q0 : eqD (.lst []) (.lst []) = true := eqD_ints []
  unfold f_law_none
  rw [bb_law_none]
  refine (fun_rt (e' := [.dat (.lst ds), .none]) rfl rfl (ret_eq ?_)).trans rfl
  have lc : mLc (iSeq (mVar 0)) [1] (gNm 1) (toT (m2 pIsNot (.ex (mCall 1 f_is_sender [.brw 1])) (.ex (mC (.bl false))))) lb_law_none_0 ([.lst ds] ++ List.replicate 1 .none : Env (gam K C)) = some (.lst [], [.dat (.lst ds), .none]) := by
    have it : iSeq (mVar 0) ([.lst ds] ++ List.replicate 1 .none : Env (gam K C)) = some (ds, [.dat (.lst ds), .none]) := by simp [iSeq, mVar]
    have wp : wipeE [1] ([.dat (.lst ds), .none] : Env (gam K C)) = some [.dat (.lst ds), .none] := by simp [wipeE, wipeL, nonOwn]
    unfold mLc
    rw [it]
    simp only [wp, c, if_pos lm]
    rfl
  refine m2_ex lc (t := .lst []) (e2 := [.dat (.lst ds), .none]) ?_ ?_
  · simp only [mN, evAs, peeks, pLstN, allDat, List.length_nil, z0, if_true, Option.map_some]
  · simp only [pEq, pEqG, Sl.view, o0, q0, Bool.and_self, if_true, db, id]
end
end K

/-! M21e: what bent answers, and that none of it is a sender -/
namespace K
open PySem L2 G S
theorem lit_at : (" at " : Str) = SX.S [32, 97, 116, 32] := by decide +kernel
theorem lit_by : (" by " : Str) = SX.S [32, 98, 121, 32] := by decide +kernel
theorem lit_at2 : (" at  " : Str) = SX.S [32, 97, 116, 32, 32] := by decide +kernel
theorem lit_ata : (" at a" : Str) = SX.S [32, 97, 116, 32, 97] := by decide +kernel
theorem lit_At : (" At " : Str) = SX.S [32, 65, 116, 32] := by decide +kernel
theorem lit_1 : ("1" : Str) = SX.S [49] := by decide +kernel
theorem lit_0 : ("" : Str) = SX.S [] := by decide +kernel
theorem repl_S (x y z : List Nat) (hy : 1 ≤ y.length) : Txt.replace (SX.S x) (SX.S y) (SX.S z) = SX.S (PySem.StrLaws.replL y z x) := by
  have h := PySem.StrLaws.replace_list (x := SX.S x) (y := SX.S y) (z := SX.S z) (by rw [SX.S_len]; exact hy)
  rw [← SX.S_tl (Txt.replace (SX.S x) (SX.S y) (SX.S z)), h]
theorem cut_to (a : List Nat) : cutS (SX.S a) none (some 1) = SX.S (a.take 1) := by
  unfold cutS
  have h1 : HT.sIx (SX.S a).length (SX.S a).length (some 1) = min 1 (SX.S a).length := HT.sIx_nat _ _ 1
  rw [HT.sIx_none, h1, SX.S_len, List.drop_zero, Nat.sub_zero]
  show SX.S (a.take (min 1 a.length)) = _
  cases a with
  | nil => rfl
  | cons c a => simp
theorem cut_from (a : List Nat) : cutS (SX.S a) (some 1) none = SX.S (a.drop 1) := by
  unfold cutS
  have h1 : HT.sIx (SX.S a).length 0 (some 1) = min 1 (SX.S a).length := HT.sIx_nat _ _ 1
  rw [HT.sIx_none, h1, SX.S_len]
  show SX.S ((a.drop (min 1 a.length)).take (a.length - min 1 a.length)) = _
  cases a with
  | nil => rfl
  | cons c a => simp
def bentL (n m : List Nat) : List G.D :=
  [.str (SX.S (snd n m ++ [32])), .str (SX.S ([32] ++ snd n m)), .str (SX.S (n ++ ([32, 98, 121, 32] ++ m))), .str (SX.S (n ++ ([32, 97, 116, 32, 32] ++ m))), .str (SX.S (snd n m ++ [32, 97, 116, 32, 97])),
   .str (SX.S (n ++ ([97, 116] ++ m))), .str (SX.S ((snd n m).take 1 ++ [49] ++ (snd n m).drop 1)), .str (SX.S (n ++ ([32, 65, 116, 32] ++ m))), .lst [.str (SX.S (snd n m))], .tup [.str (SX.S (snd n m)), .str (SX.S (snd n m))]]
section
variable {K : PySem.W.Frag} {C : Addr} {n m : List Nat} (hn : Nm n) (hm : Nm m)
include hn hm
theorem snd_len : (snd n m).length ≤ 20 := by
  have := hn.l8
  have := hm.l8
  simp [snd]
  omega
theorem snd_code : ∀ c ∈ snd n m, c ≤ 122 := fun c hc => by
  simp [snd] at hc
  rcases hc with z | z | z | z | z
  · exact (hn.let_ c z).2
  · omega
  · omega
  · omega
  · rcases z with z | z
    · omega
    · exact (hm.let_ c z).2
theorem okA_snd : okA (snd n m) := ⟨fun c hc => by have := snd_code hn hm c hc; omega, by have := snd_len hn hm; omega⟩
theorem eval_bent : f_law_bent (K := K) (C := C) [.dat (.str (SX.S (snd n m)))] = some (.lst (bentL n m), [.dat (.str (SX.S (snd n m)))]) := by
  have l20 := snd_len hn hm
  have len : (SX.S (snd n m)).length = (snd n m).length := SX.S_len _
  have bd : ∀ k : Nat, k ≤ 1000 → k ≤ sizeLine := fun k hk => Nat.le_trans hk (by decide)
  have a1 : (SX.S (snd n m)).length + (SX.S [32]).length ≤ sizeLine := bd _ (by rw [SX.S_len, SX.S_len]; simp; omega)
  have a2 : (SX.S [32]).length + (SX.S (snd n m)).length ≤ sizeLine := bd _ (by rw [SX.S_len, SX.S_len]; simp; omega)
  have a3 : (SX.S (snd n m)).length + (SX.S [32, 97, 116, 32, 97]).length ≤ sizeLine := bd _ (by rw [SX.S_len, SX.S_len]; simp; omega)
  have r : ∀ z : List Nat, z.length ≤ 100 → (SX.S (snd n m)).length + ((SX.S (snd n m)).length + 1) * (SX.S z).length ≤ 16777216 := fun z hz => by
    rw [SX.S_len, SX.S_len]
    have : ((snd n m).length + 1) * z.length ≤ 21 * 100 := Nat.mul_le_mul (by omega) hz
    omega
  have r1 := r [32, 98, 121, 32] (by simp)
  have r2 := r [32, 97, 116, 32, 32] (by simp)
  have r3 := r [] (by simp)
  have r4 := r [32, 65, 116, 32] (by simp)
  have e1 : Txt.replace (SX.S (snd n m)) (SX.S [32, 97, 116, 32]) (SX.S [32, 98, 121, 32]) = SX.S (n ++ ([32, 98, 121, 32] ++ m)) := by rw [repl_S _ _ _ (by simp), repl_snd hn.no32 hm.no32]
  have e2 : Txt.replace (SX.S (snd n m)) (SX.S [32, 97, 116, 32]) (SX.S [32, 97, 116, 32, 32]) = SX.S (n ++ ([32, 97, 116, 32, 32] ++ m)) := by rw [repl_S _ _ _ (by simp), repl_snd hn.no32 hm.no32]
  have e3 : Txt.replace (SX.S (snd n m)) (SX.S [32]) (SX.S []) = SX.S (n ++ ([97, 116] ++ m)) := by rw [repl_S _ _ _ (by simp), repl_blank hn.no32 hm.no32]
  have e4 : Txt.replace (SX.S (snd n m)) (SX.S [32, 97, 116, 32]) (SX.S [32, 65, 116, 32]) = SX.S (n ++ ([32, 65, 116, 32] ++ m)) := by rw [repl_S _ _ _ (by simp), repl_snd hn.no32 hm.no32]
  have ls : (SX.S (snd n m)).length ≤ sizeLine := bd _ (by rw [len]; omega)
  have a4 : (SX.S ((snd n m).take 1)).length + (SX.S [49]).length ≤ sizeLine := bd _ (by rw [SX.S_len, SX.S_len, List.length_take]; simp; omega)
  have a5 : (SX.S ((snd n m).take 1 ++ [49])).length + (SX.S ((snd n m).drop 1)).length ≤ sizeLine := bd _ (by rw [SX.S_len, SX.S_len, List.length_append, List.length_take, List.length_drop]; simp; omega)
  have h5 : (5 : Nat) ≤ sizeLine := by decide
  have h1 : (1 : Nat) ≤ sizeLine := by decide
  have h2 : (2 : Nat) ≤ sizeLine := by decide
  have h10 : (10 : Nat) ≤ sizeLine := by decide
  unfold f_law_bent b_law_bent
  simp only [lit_at, lit_by, lit_at2, lit_ata, lit_At, lit_1, lit_0, spc]
  generalize hx : SX.S (snd n m) = x at *
  refine (fun_rt (e' := [.dat (.str x), .lst [.str (SX.S (snd n m ++ [32])), .str (SX.S ([32] ++ snd n m)), .str (SX.S (n ++ ([32, 98, 121, 32] ++ m))), .str (SX.S (n ++ ([32, 97, 116, 32, 32] ++ m))), .str (SX.S (snd n m ++ [32, 97, 116, 32, 97]))]]) rfl rfl ?_).trans rfl
  have c1 : x ++ SX.S [32] = SX.S (snd n m ++ [32]) := by rw [← hx]; exact SX.S_cat _ _
  have c2 : SX.S [32] ++ x = SX.S ([32] ++ snd n m) := by rw [← hx]; exact SX.S_cat _ _
  have c3 : x ++ SX.S [32, 97, 116, 32, 97] = SX.S (snd n m ++ [32, 97, 116, 32, 97]) := by rw [← hx]; exact SX.S_cat _ _
  have s1 : mSet 1 (mN pLstN [.ex (m2 pAdd (.brw 0) (.ex (mC (.str (SX.S [32]))))), .ex (mFrz (m2 pAdd (.ex (mC (.str (SX.S [32])))) (.brw 0))), .ex (mRepl 0 (SX.S [32, 97, 116, 32]) (SX.S [32, 98, 121, 32])), .ex (mRepl 0 (SX.S [32, 97, 116, 32]) (SX.S [32, 97, 116, 32, 32])), .ex (mFrz (m2 pAdd (.brw 0) (.ex (mC (.str (SX.S [32, 97, 116, 32, 97]))))))]) ([.dat (.str x)] ++ List.replicate 1 .none : Env (gam K C)) =
      some (.nx, [.dat (.str x), .lst [.str (SX.S (snd n m ++ [32])), .str (SX.S ([32] ++ snd n m)), .str (SX.S (n ++ ([32, 98, 121, 32] ++ m))), .str (SX.S (n ++ ([32, 97, 116, 32, 32] ++ m))), .str (SX.S (snd n m ++ [32, 97, 116, 32, 97]))]]) := by
    simp only [mSet, mN, evAs, evA, m2, got, List.cons_append, List.nil_append, List.replicate, List.getElem?_cons_zero, Option.map_some, mC, peek, pAdd, Sl.view, a1, a2, a3, if_true, G.ds, c1, c2, c3, mFrz, mRepl, r1, r2, e1, e2, peeks, pLstN, allDat, List.length_cons, List.length_nil, h5, List.set, Nat.zero_add, Nat.reduceAdd, Nat.reduceLT]
  refine (seq_nx s1).trans (ret_eq ?_)
  have t1 : cutS x none (some 1) = SX.S ((snd n m).take 1) := by rw [← hx]; exact cut_to _
  have t2 : cutS x (some 1) none = SX.S ((snd n m).drop 1) := by rw [← hx]; exact cut_from _
  have c4 : SX.S ((snd n m).take 1) ++ SX.S [49] = SX.S ((snd n m).take 1 ++ [49]) := SX.S_cat _ _
  have c5 : SX.S ((snd n m).take 1 ++ [49]) ++ SX.S ((snd n m).drop 1) = SX.S ((snd n m).take 1 ++ [49] ++ (snd n m).drop 1) := SX.S_cat _ _
  have s2 : mN pLstN [.ex (mRepl 0 (SX.S [32]) (SX.S [])), .ex (mFrz (m2 pAdd (.ex (m2 pAdd (.ex (m2 pSl2 (.brw 0) (.ex (mC (.int 1))))) (.ex (mC (.str (SX.S [49])))))) (.ex (m2 pSl1 (.brw 0) (.ex (mC (.int 1))))))), .ex (mRepl 0 (SX.S [32, 97, 116, 32]) (SX.S [32, 65, 116, 32])), .ex (mFrz (mN pLstN [.ex (mVar 0)])), .ex (mN pTupN [.ex (mVar 0), .ex (mVar 0)])] ([.dat (.str x), .lst [.str (SX.S (snd n m ++ [32])), .str (SX.S ([32] ++ snd n m)), .str (SX.S (n ++ ([32, 98, 121, 32] ++ m))), .str (SX.S (n ++ ([32, 97, 116, 32, 32] ++ m))), .str (SX.S (snd n m ++ [32, 97, 116, 32, 97]))]] : Env (gam K C)) =
      some (.lst [.str (SX.S (n ++ ([97, 116] ++ m))), .str (SX.S ((snd n m).take 1 ++ [49] ++ (snd n m).drop 1)), .str (SX.S (n ++ ([32, 65, 116, 32] ++ m))), .lst [.str x], .tup [.str x, .str x]], [.dat (.str x), .lst [.str (SX.S (snd n m ++ [32])), .str (SX.S ([32] ++ snd n m)), .str (SX.S (n ++ ([32, 98, 121, 32] ++ m))), .str (SX.S (n ++ ([32, 97, 116, 32, 32] ++ m))), .str (SX.S (snd n m ++ [32, 97, 116, 32, 97]))]]) := by
    simp only [mN, evAs, evA, m2, got, List.getElem?_cons_zero, Option.map_some, mC, peek, pSl2, pSl1, asInt, pSl, ls, if_true, t1, t2, pAdd, Sl.view, a4, a5, G.ds, c4, c5, mFrz, mRepl, r3, r4, e3, e4, mVar, peeks, pLstN, pTupN, allDat, List.length_cons, List.length_nil, h5, h1, h2, Nat.zero_add, Nat.reduceAdd]
  refine m2_be (s := .lst [.str (SX.S (snd n m ++ [32])), .str (SX.S ([32] ++ snd n m)), .str (SX.S (n ++ ([32, 98, 121, 32] ++ m))), .str (SX.S (n ++ ([32, 97, 116, 32, 32] ++ m))), .str (SX.S (snd n m ++ [32, 97, 116, 32, 97]))]) rfl s2 rfl ?_
  have e10 : (5 : Nat) + 5 ≤ sizeLine := by decide
  simp only [pAdd, Sl.view, List.length_cons, List.length_nil, Nat.zero_add, Nat.reduceAdd, h10, if_true]
  rw [← hx]
  rfl
theorem bent_none : ∀ d ∈ bentL n m, f_is_sender (K := K) (C := C) [.dat d] = some (.dat (.bl false), [.dat d]) := by
  have l20 := snd_len hn hm
  have co := snd_code hn hm
  have cn := fun c hc => (hn.let_ c hc).2
  have cm := fun c hc => (hm.let_ c hc).2
  have hl1 := hn.l8
  have hl2 := hm.l8
  have go : ∀ a : List Nat, (∀ c ∈ a, c ≤ 122) → a.length ≤ 1000 → isS a = false → f_is_sender (K := K) (C := C) [.dat (.str (SX.S a))] = some (.dat (.bl false), [.dat (.str (SX.S a))]) := fun a h1 h2 h3 => by
    rw [← h3]
    exact eval_sender a ⟨fun c hc => by have := h1 c hc; omega, h2⟩
  have mid : ∀ z : List Nat, (∀ c ∈ z, c ≤ 122) → z.length ≤ 100 → (∀ c ∈ n ++ (z ++ m), c ≤ 122) ∧ (n ++ (z ++ m)).length ≤ 1000 := fun z h1 h2 => ⟨fun c hc => by
    simp at hc
    rcases hc with y | y | y
    · exact cn c y
    · exact h1 c y
    · exact cm c y, by simp; omega⟩
  intro d hd
  unfold bentL at hd
  rcases List.mem_cons.mp hd with rfl | hd
  · exact go _ (fun c hc => by
      rcases List.mem_append.mp hc with y | y
      · exact co c y
      · simp at y; omega) (by simp; omega) (bent0 hn hm)
  rcases List.mem_cons.mp hd with rfl | hd
  · exact go _ (fun c hc => by
      rcases List.mem_append.mp hc with y | y
      · simp at y; omega
      · exact co c y) (by simp; omega) (bent1 hn hm)
  rcases List.mem_cons.mp hd with rfl | hd
  · obtain ⟨q1, q2⟩ := mid [32, 98, 121, 32] (by simp) (by simp)
    exact go _ q1 q2 (bent2 hn hm)
  rcases List.mem_cons.mp hd with rfl | hd
  · obtain ⟨q1, q2⟩ := mid [32, 97, 116, 32, 32] (by simp) (by simp)
    exact go _ q1 q2 (bent3 hn hm)
  rcases List.mem_cons.mp hd with rfl | hd
  · exact go _ (fun c hc => by
      rcases List.mem_append.mp hc with y | y
      · exact co c y
      · simp at y; omega) (by simp; omega) (bent4 hn hm)
  rcases List.mem_cons.mp hd with rfl | hd
  · obtain ⟨q1, q2⟩ := mid [97, 116] (by simp) (by simp)
    exact go _ q1 q2 (bent5 hn hm)
  rcases List.mem_cons.mp hd with rfl | hd
  · exact go _ (fun c hc => by
      rcases List.mem_append.mp hc with y | y
      · rcases List.mem_append.mp y with y | y
        · exact co c (List.mem_of_mem_take y)
        · simp at y; omega
      · exact co c (List.mem_of_mem_drop y)) (by simp; omega) (bent6 hn hm)
  rcases List.mem_cons.mp hd with rfl | hd
  · obtain ⟨q1, q2⟩ := mid [32, 65, 116, 32] (by simp) (by simp)
    exact go _ q1 q2 (bent7 hn hm)
  rcases List.mem_cons.mp hd with rfl | hd
  · exact eval_sender_no _ (by simp [isT])
  · rw [List.mem_singleton] at hd
    subst hd
    exact eval_sender_no _ (by simp [isT])
end
end K

/-! M21f: what the law's names answer, by mkM21f.py -/
namespace K
open PySem L2 G S
def isC (c : Nat) : Prop := 97 ≤ c ∧ c ≤ 122
def nmOf (b : Int) (ys : List Nat) (c : Nat) : List Nat := if b = 0 then c :: ys else ys ++ [c]
theorem allStr_codes (ys : List Nat) : allStr (ys.map fun c => G.D.str (SX.S [c])) = some (ys.map fun c => SX.S [c]) := by
  have := allStr_map (ys.map fun c => SX.S [c])
  rw [List.map_map] at this
  exact this
theorem joinL_one : ∀ ys : List Nat, TL.joinL [] (ys.map fun c => [c]) = ys
  | [] => rfl
  | [c] => rfl
  | c :: d :: r => by
    have ih := joinL_one (d :: r)
    rw [List.map_cons, List.map_cons]
    show [c] ++ ([] ++ TL.joinL [] ([d] :: r.map fun c => [c])) = _
    have ih' : TL.joinL [] ([d] :: r.map fun c => [c]) = d :: r := ih
    rw [ih']
    rfl
theorem join_codes (ys : List Nat) : Txt.join "" (ys.map fun c => SX.S [c]) = SX.S ys := by
  rw [lit_0]
  have := SX.join_S [] (ys.map fun c => [c])
  rw [List.map_map] at this
  rw [joinL_one] at this
  exact this
section
variable {K : PySem.W.Frag} {C : Addr}
theorem letter (r : Int) (h0 : 0 ≤ r) (h1 : r < 26) : pIx (Γ := gam K C) (.dat (.str abc)) (.dat (.int r)) = some (.dat (.str (SX.S [97 + r.toNat]))) := by
  have hl : abc.length ≤ sizeLine := by decide +kernel
  have len : abc.cps.toList.length = 26 := by rw [abc_eq]; rfl
  unfold pIx
  simp only [Sl.view]
  rw [if_pos hl]
  have ix : atI abc.cps.toList r = some (97 + r.toNat) := by
    unfold atI ixN
    rw [if_pos h0, if_pos (by rw [len]; omega)]
    simp only [Option.bind_some]
    rw [abc_eq]
    have hr : r.toNat < 26 := by omega
    generalize r.toNat = k at hr
    have hh : ∀ k : Fin 26, ([97, 98, 99, 100, 101, 102, 103, 104, 105, 106, 107, 108, 109, 110, 111, 112, 113, 114, 115, 116, 117, 118, 119, 120, 121, 122] : List Nat)[k.1]? = some (97 + k.1) := by decide
    exact hh ⟨k, hr⟩
  rw [ix]
  rfl
theorem comp_n0 (a1 s3 s5 s6 s7 s8 : Sl (gam K C)) : ∀ (xs : List G.D) (i j : Int), ∃ (ys : List Nat) (i' j' : Int), ys.length = xs.length ∧ (∀ y ∈ ys, isC y) ∧
    compL [4] (gNm 4) (fun env => some (true, env)) lb_law_names_0 xs [bag i j, a1, .dat (.str abc), s3, .none, s5, s6, s7, s8] = some (ys.map fun c => G.D.str (SX.S [c]), [bag i' j', a1, .dat (.str abc), s3, .none, s5, s6, s7, s8])
  | [], i, j => ⟨[], i, j, rfl, fun _ h => (nomatch h), rfl⟩
  | x :: xs, i, j => by
    obtain ⟨r, i1, j1, r0, r1, e⟩ := call_take (K := K) (C := C) i j 26 (by decide) (by decide)
    have ec := letter (K := K) (C := C) r r0 r1
    obtain ⟨ys, i', j', k1, k2, h⟩ := comp_n0 a1 s3 s5 s6 s7 s8 xs i1 j1
    refine ⟨(97 + r.toNat) :: ys, i', j', by simp [k1], fun y hy => ?_, ?_⟩
    · rcases List.mem_cons.mp hy with z | z
      · subst z; exact ⟨by omega, by omega⟩
      · exact k2 y z
    · have tg : gNm 4 x [bag i j, a1, .dat (.str abc), s3, .none, s5, s6, s7, s8] = some [bag i j, a1, .dat (.str abc), s3, .dat x, s5, s6, s7, s8] := by simp [gNm]
      have el : lb_law_names_0 [bag i j, a1, .dat (.str abc), s3, .dat x, s5, s6, s7, s8] = some (.dat (.str (SX.S [97 + r.toNat])), [bag i1 j1, a1, .dat (.str abc), s3, .dat x, s5, s6, s7, s8]) := by
        simp [lb_law_names_0, m2, evA, got, e, peek, ec]
      have wp : wipeE [4] [bag i1 j1, a1, .dat (.str abc), s3, .dat x, s5, s6, s7, s8] = some [bag i1 j1, a1, .dat (.str abc), s3, .none, s5, s6, s7, s8] := by simp [wipeE, wipeL, nonOwn]
      unfold compL
      rw [tg]
      simp only [el, wp, h, Option.map_some]
      rfl
theorem comp_n1 (a0 a1 s3 s6 s7 s8 : Sl (gam K C)) (st : Int) : ∀ (ks : List Int),
    compL [4] (gNm 4) (fun env => some (true, env)) lb_law_names_1 (ks.map G.D.int) [a0, a1, .dat (.str abc), s3, .none, .dat (.int st), s6, s7, s8] = some ((ks.map fun k => 97 + ((st + 7 * k) % 26).toNat).map fun c => G.D.str (SX.S [c]), [a0, a1, .dat (.str abc), s3, .none, .dat (.int st), s6, s7, s8])
  | [] => rfl
  | k :: ks => by
    have ec := letter (K := K) (C := C) ((st + 7 * k) % 26) (Int.emod_nonneg _ (by decide)) (Int.emod_lt_of_pos _ (by decide))
    have h := comp_n1 a0 a1 s3 s6 s7 s8 st ks
    have tg : gNm 4 (.int k) [a0, a1, .dat (.str abc), s3, .none, .dat (.int st), s6, s7, s8] = some [a0, a1, .dat (.str abc), s3, .dat (.int k), .dat (.int st), s6, s7, s8] := by simp [gNm]
    have el : lb_law_names_1 [a0, a1, .dat (.str abc), s3, .dat (.int k), .dat (.int st), s6, s7, s8] = some (.dat (.str (SX.S [97 + ((st + 7 * k) % 26).toNat])), [a0, a1, .dat (.str abc), s3, .dat (.int k), .dat (.int st), s6, s7, s8]) := by
      simp [lb_law_names_1, m2, evA, got, peek, mC, pMul, pI, cMul, Sl.view, pAdd, di, pMod, cMod, ec]
    have wp : wipeE [4] [a0, a1, .dat (.str abc), s3, .dat (.int k), .dat (.int st), s6, s7, s8] = some [a0, a1, .dat (.str abc), s3, .none, .dat (.int st), s6, s7, s8] := by simp [wipeE, wipeL, nonOwn]
    rw [List.map_cons]
    unfold compL
    rw [tg]
    simp only [el, wp, h, Option.map_some]
    rfl
theorem comp_n2 (a0 a1 s2 s4 s5 s7 : Sl (gam K C)) (base : List Nat) (b : Int) (hb : base.length ≤ 7) : ∀ (xs : List Nat),
    compL [8] (gNm 8) (fun env => some (true, env)) lb_law_names_2 (xs.map fun c => G.D.str (SX.S [c])) [a0, a1, s2, .dat (.str (SX.S base)), s4, s5, .dat (.int b), s7, .none] = some (xs.map fun c => G.D.str (SX.S (nmOf b base c)), [a0, a1, s2, .dat (.str (SX.S base)), s4, s5, .dat (.int b), s7, .none])
  | [] => rfl
  | x :: xs => by
    have h := comp_n2 a0 a1 s2 s4 s5 s7 base b hb xs
    have l1 : (SX.S base).length + (SX.S [x]).length ≤ sizeLine := Nat.le_trans (show _ ≤ 8 by rw [SX.S_len, SX.S_len]; simp; omega) (by decide)
    have l2 : (SX.S [x]).length + (SX.S base).length ≤ sizeLine := Nat.le_trans (show _ ≤ 8 by rw [SX.S_len, SX.S_len]; simp; omega) (by decide)
    have c1 : SX.S base ++ SX.S [x] = SX.S (base ++ [x]) := SX.S_cat _ _
    have c2 : SX.S [x] ++ SX.S base = SX.S (x :: base) := SX.S_cat _ _
    have tg : gNm 8 (.str (SX.S [x])) [a0, a1, s2, .dat (.str (SX.S base)), s4, s5, .dat (.int b), s7, .none] = some [a0, a1, s2, .dat (.str (SX.S base)), s4, s5, .dat (.int b), s7, .dat (.str (SX.S [x]))] := by simp [gNm]
    have wp : wipeE [8] [a0, a1, s2, .dat (.str (SX.S base)), s4, s5, .dat (.int b), s7, .dat (.str (SX.S [x]))] = some [a0, a1, s2, .dat (.str (SX.S base)), s4, s5, .dat (.int b), s7, .none] := by simp [wipeE, wipeL, nonOwn]
    have el : lb_law_names_2 [a0, a1, s2, .dat (.str (SX.S base)), s4, s5, .dat (.int b), s7, .dat (.str (SX.S [x]))] = some (.dat (.str (SX.S (nmOf b base x))), [a0, a1, s2, .dat (.str (SX.S base)), s4, s5, .dat (.int b), s7, .dat (.str (SX.S [x]))]) := by
      generalize hB : SX.S base = B at *
      generalize hX : SX.S [x] = Xx at *
      unfold nmOf
      by_cases z : b = 0
      · subst z
        rw [if_pos rfl, ← c2]
        simp [lb_law_names_2, mFrz, mIf, mT, evA, got, peek, truth, Sl.view, m2, pAdd, l2, G.ds]
      · have zb : (b != 0) = true := by simpa using z
        rw [if_neg z, ← c1]
        simp [lb_law_names_2, mFrz, mIf, mT, evA, got, peek, truth, Sl.view, m2, pAdd, l1, G.ds, zb]
    rw [List.map_cons]
    unfold compL
    rw [tg]
    simp only [el, wp, h, Option.map_some]
    rfl
theorem eval_names (i j : Int) : ∃ (xs : List (List Nat)) (i' j' : Int), xs.length = 5 ∧ (∀ x ∈ xs, Nm x) ∧ xs.Nodup ∧ f_law_names (K := K) (C := C) [bag i j, .dat (.int 5)] = some (.lst (xs.map fun x => G.D.str (SX.S x)), [bag i' j', .dat (.int 5)]) := by
  obtain ⟨d1, i1, j1, m1, e1⟩ := eval_of (K := K) (C := C) i j [.int 0, .int 0, .int 2, .int 7] (.lst [.int 0, .int 0, .int 2, .int 7]) (.inl rfl) (by simp) (by simp)
  obtain ⟨x, rfl, x0, x7⟩ : ∃ x : Int, d1 = .int x ∧ 0 ≤ x ∧ x ≤ 7 := by
    simp at m1
    rcases m1 with z | z | z <;> exact ⟨_, z, by decide, by decide⟩
  obtain ⟨ys, i2, j2, y1, y2, c0⟩ := comp_n0 (K := K) (C := C) (.dat (.int 5)) .none .none .none .none .none ((List.range x.toNat).map fun (k : Nat) => G.D.int (k : Int)) i1 j1
  rw [List.length_map, List.length_range] at y1
  have yl : ys.length ≤ 7 := by omega
  have jl : ((ys.map fun c => SX.S [c]).map (·.length)).sum + (ys.map fun c => SX.S [c]).length * ("" : Str).length ≤ 16777216 := by
    have h2 : ("" : Str).length = 0 := by decide +kernel
    have h1 : ∀ l : List Nat, ((l.map fun c => SX.S [c]).map (·.length)).sum = l.length := fun l => by
      induction l with
      | nil => rfl
      | cons a l ih => rw [List.map_cons, List.map_cons, List.sum_cons, ih, SX.S_len, List.length_cons]; simp; omega
    rw [h2, Nat.mul_zero, h1]
    omega
  obtain ⟨st, i3, j3, t0, t1, e3⟩ := call_take (K := K) (C := C) i2 j2 26 (by decide) (by decide)
  obtain ⟨b, i4, j4, u0, u1, e4⟩ := call_take (K := K) (C := C) i3 j3 2 (by decide) (by decide)
  obtain ⟨fs, hf⟩ : ∃ fs : List Nat, fs = ([0, 1, 2, 3, 4] : List Int).map fun k => 97 + ((st + 7 * k) % 26).toNat := ⟨_, rfl⟩
  have c1 := comp_n1 (K := K) (C := C) (bag i4 j4) (.dat (.int 5)) (.dat (.str (SX.S ys))) (.dat (.int b)) .none .none st [0, 1, 2, 3, 4]
  rw [← hf] at c1
  have c2 := comp_n2 (K := K) (C := C) (bag i4 j4) (.dat (.int 5)) (.dat (.str abc)) .none (.dat (.int st)) (.dat (.lst (fs.map fun c => G.D.str (SX.S [c])))) ys b yl fs
  have fc : ∀ c ∈ fs, isC c := fun c hc => by
    rw [hf] at hc
    obtain ⟨k, _, rfl⟩ := List.mem_map.mp hc
    have h1 := Int.emod_nonneg (st + 7 * k) (show (26 : Int) ≠ 0 by decide)
    have h2 := Int.emod_lt_of_pos (st + 7 * k) (show (0 : Int) < 26 by decide)
    exact ⟨by omega, by omega⟩
  have fn : fs.Nodup := by
    rw [hf]
    simp only [List.map_cons, List.map_nil, List.nodup_cons, List.mem_cons, List.not_mem_nil, or_false, not_or]
    refine ⟨⟨?_, ?_, ?_, ?_⟩, ⟨?_, ?_, ?_⟩, ⟨?_, ?_⟩, ?_, fun z => z, List.nodup_nil⟩ <;> omega
  refine ⟨fs.map (nmOf b ys), i4, j4, by rw [List.length_map, hf, List.length_map]; rfl, fun x hx => ?_, ?_, ?_⟩
  · obtain ⟨c, hc, rfl⟩ := List.mem_map.mp hx
    have h1 := fc c hc
    unfold nmOf
    split
    · exact ⟨by simp, by simp; omega, fun d hd => by
        rcases List.mem_cons.mp hd with z | z
        · subst z; exact h1
        · exact y2 d z⟩
    · exact ⟨by simp, by simp; omega, fun d hd => by
        rcases List.mem_append.mp hd with z | z
        · exact y2 d z
        · rw [List.mem_singleton.mp z]; exact h1⟩
  · have inj : ∀ c d, nmOf b ys c = nmOf b ys d → c = d := fun c d e => by
      unfold nmOf at e
      split at e
      · injection e
      · have := List.append_cancel_left e
        injection this
    have go : ∀ l : List Nat, l.Nodup → (l.map (nmOf b ys)).Nodup := fun l => by
      induction l with
      | nil => intro _; exact List.nodup_nil
      | cons c l ih =>
        intro h
        rw [List.nodup_cons] at h
        rw [List.map_cons, List.nodup_cons]
        refine ⟨fun z => ?_, ih h.2⟩
        obtain ⟨d, hd, e⟩ := List.mem_map.mp z
        exact h.1 (inj _ _ e ▸ hd)
    exact go fs fn
  rw [List.map_map]
  show f_law_names (K := K) (C := C) [bag i j, .dat (.int 5)] = some (.lst (fs.map fun c => G.D.str (SX.S (nmOf b ys c))), [bag i4 j4, .dat (.int 5)])
  unfold f_law_names
  rw [bb_law_names]
  have h4 : (4 : Nat) ≤ sizeLine := by decide
  have xs : (x.toNat) ≤ sizeLine := Nat.le_trans (show x.toNat ≤ 7 by omega) (by decide)
  refine (fun_rt (e' := [bag i4 j4, .dat (.int 5), .dat (.str abc), .dat (.str (SX.S ys)), .none, .dat (.int st), .dat (.int b), .dat (.lst (fs.map fun c => G.D.str (SX.S [c]))), .none]) rfl rfl ?_).trans rfl
  have s1 : mSet 2 (mC (.str "abcdefghijklmnopqrstuvwxyz")) ([bag i j, .dat (.int 5)] ++ List.replicate 7 .none) = some (.nx, [bag (K := K) (C := C) i j, .dat (.int 5), .dat (.str abc), .none, .none, .none, .none, .none, .none]) := by
    simp [mSet, mC, abc, List.replicate]
  have i0 : iRng (mCall 2 f_law_of [.brw 0, .ex (mN pLstN [.ex (mC (.int 0)), .ex (mC (.int 0)), .ex (mC (.int 2)), .ex (mC (.int 7))])]) [bag (K := K) (C := C) i j, .dat (.int 5), .dat (.str abc), .none, .none, .none, .none, .none, .none] = some ((List.range x.toNat).map fun (k : Nat) => G.D.int (k : Int), [bag i1 j1, .dat (.int 5), .dat (.str abc), .none, .none, .none, .none, .none, .none]) := by
    have xb : x < 4611686018427387904 := by omega
    have xb' : -4611686018427387904 ≤ x := by omega
    unfold bag at e1 ⊢
    simp [mFun, mSeq, mIfS, toT, m1, m2, mN, evA, evAs, got, peek, peeks, pEq, pNe, pEqG, pLt, pLe, pGt, pGe, pOrd, pIx, Sl.view, mC, mVar, mRet, mNx, mSet, mDrop, mNotT, mNotE, mNotV, mAndT, mOrT, mAndV, mOrV, mIf, mT, truth, db, di, atI, ixN, okD_int, okD_bl, okD_non, eqD_int, eqD_str, eqD_bl, nonOwn, backE, List.replicate, mRetMv, mQ2, mQ1, mQ, evQ, getP, Fd.sl, G.keyOf, pDIn, pDNotIn, pDInG, pDGet, mDPut, setD, mFSet, mMv, Sl.fd, putFd, pTupN, allDat, mDNew, iSeq, mFor, forL, gTp, gNm, gAll, iRng, mCall, pLstN, h4, takeA, putA, e1, xb, xb']
  have s2 : mSet 3 (mM1 pJoin (mC (.str "")) (.ex (mLc (iRng (mCall 2 f_law_of [.brw 0, .ex (mN pLstN [.ex (mC (.int 0)), .ex (mC (.int 0)), .ex (mC (.int 2)), .ex (mC (.int 7))])])) [4] (gNm 4) (fun env => some (true, env)) lb_law_names_0))) [bag (K := K) (C := C) i j, .dat (.int 5), .dat (.str abc), .none, .none, .none, .none, .none, .none] = some (.nx, [bag i2 j2, .dat (.int 5), .dat (.str abc), .dat (.str (SX.S ys)), .none, .none, .none, .none, .none]) := by
    have lc : mLc (iRng (mCall 2 f_law_of [.brw 0, .ex (mN pLstN [.ex (mC (.int 0)), .ex (mC (.int 0)), .ex (mC (.int 2)), .ex (mC (.int 7))])])) [4] (gNm 4) (fun env => some (true, env)) lb_law_names_0 [bag (K := K) (C := C) i j, .dat (.int 5), .dat (.str abc), .none, .none, .none, .none, .none, .none] = some (.lst (ys.map fun c => G.D.str (SX.S [c])), [bag i2 j2, .dat (.int 5), .dat (.str abc), .none, .none, .none, .none, .none, .none]) := by
      unfold mLc
      rw [i0]
      simp only
      rw [if_pos (by simpa using xs)]
      have wp : wipeE [4] [bag (K := K) (C := C) i1 j1, .dat (.int 5), .dat (.str abc), .none, .none, .none, .none, .none, .none] = some [bag i1 j1, .dat (.int 5), .dat (.str abc), .none, .none, .none, .none, .none, .none] := by simp [wipeE, wipeL, nonOwn]
      simp only [wp, c0]
      simp [backE]
    have aj := allStr_codes ys
    have je := join_codes ys
    refine set_eq (s := .dat (.str (SX.S ys))) (e1 := [bag i2 j2, .dat (.int 5), .dat (.str abc), .none, .none, .none, .none, .none, .none]) ?_ (by simp)
    simp only [mM1, mC, evA, lc, Option.map_some, peek, pJoin, Sl.view, aj]
    rw [if_pos jl, je]
    rfl
  have s3 : mPar 5 6 (mCall 2 f_law_take [.brw 0, .ex (mC (.int 26))]) (mCall 2 f_law_take [.brw 0, .ex (mC (.int 2))]) [bag (K := K) (C := C) i2 j2, .dat (.int 5), .dat (.str abc), .dat (.str (SX.S ys)), .none, .none, .none, .none, .none] = some (.nx, [bag i4 j4, .dat (.int 5), .dat (.str abc), .dat (.str (SX.S ys)), .none, .dat (.int st), .dat (.int b), .none, .none]) :=
    par_eq (e3 _) (e4 _) (by simp) (by simp)
  have s4 : mSet 7 (mLc (iRng (mVar 1)) [4] (gNm 4) (fun env => some (true, env)) lb_law_names_1) [bag (K := K) (C := C) i4 j4, .dat (.int 5), .dat (.str abc), .dat (.str (SX.S ys)), .none, .dat (.int st), .dat (.int b), .none, .none] = some (.nx, [bag i4 j4, .dat (.int 5), .dat (.str abc), .dat (.str (SX.S ys)), .none, .dat (.int st), .dat (.int b), .lst (fs.map fun c => G.D.str (SX.S [c])), .none]) := by
    refine set_eq (s := .lst (fs.map fun c => G.D.str (SX.S [c]))) (e1 := [bag i4 j4, .dat (.int 5), .dat (.str abc), .dat (.str (SX.S ys)), .none, .dat (.int st), .dat (.int b), .none, .none]) ?_ (by simp)
    have ir : iRng (mVar 1) [bag (K := K) (C := C) i4 j4, .dat (.int 5), .dat (.str abc), .dat (.str (SX.S ys)), .none, .dat (.int st), .dat (.int b), .none, .none] = some (([0, 1, 2, 3, 4] : List Int).map G.D.int, [bag i4 j4, .dat (.int 5), .dat (.str abc), .dat (.str (SX.S ys)), .none, .dat (.int st), .dat (.int b), .none, .none]) := by
      simp [iRng, mVar]
      rfl
    have wp : wipeE [4] [bag (K := K) (C := C) i4 j4, .dat (.int 5), .dat (.str abc), .dat (.str (SX.S ys)), .none, .dat (.int st), .dat (.int b), .none, .none] = some [bag i4 j4, .dat (.int 5), .dat (.str abc), .dat (.str (SX.S ys)), .none, .dat (.int st), .dat (.int b), .none, .none] := by simp [wipeE, wipeL, nonOwn]
    unfold mLc
    rw [ir]
    simp only
    rw [if_pos (by decide)]
    simp only [wp, c1]
    simp [backE]
  have s5 : mLc (iSeq (mVar 7)) [8] (gNm 8) (fun env => some (true, env)) lb_law_names_2 [bag (K := K) (C := C) i4 j4, .dat (.int 5), .dat (.str abc), .dat (.str (SX.S ys)), .none, .dat (.int st), .dat (.int b), .lst (fs.map fun c => G.D.str (SX.S [c])), .none] = some (.lst (fs.map fun c => G.D.str (SX.S (nmOf b ys c))), [bag i4 j4, .dat (.int 5), .dat (.str abc), .dat (.str (SX.S ys)), .none, .dat (.int st), .dat (.int b), .dat (.lst (fs.map fun c => G.D.str (SX.S [c]))), .none]) := by
    have ir : iSeq (mVar 7) [bag (K := K) (C := C) i4 j4, .dat (.int 5), .dat (.str abc), .dat (.str (SX.S ys)), .none, .dat (.int st), .dat (.int b), .lst (fs.map fun c => G.D.str (SX.S [c])), .none] = some (fs.map fun c => G.D.str (SX.S [c]), [bag i4 j4, .dat (.int 5), .dat (.str abc), .dat (.str (SX.S ys)), .none, .dat (.int st), .dat (.int b), .dat (.lst (fs.map fun c => G.D.str (SX.S [c]))), .none]) := by
      simp [iSeq, mVar]
    have wp : wipeE [8] [bag (K := K) (C := C) i4 j4, .dat (.int 5), .dat (.str abc), .dat (.str (SX.S ys)), .none, .dat (.int st), .dat (.int b), .dat (.lst (fs.map fun c => G.D.str (SX.S [c]))), .none] = some [bag i4 j4, .dat (.int 5), .dat (.str abc), .dat (.str (SX.S ys)), .none, .dat (.int st), .dat (.int b), .dat (.lst (fs.map fun c => G.D.str (SX.S [c]))), .none] := by simp [wipeE, wipeL, nonOwn]
    unfold mLc
    rw [ir]
    simp only
    rw [if_pos (by rw [List.length_map, hf, List.length_map]; decide)]
    simp only [wp, c2]
    simp [backE]
  exact (seq_nx s1).trans ((seq_nx s2).trans ((seq_nx s3).trans ((seq_nx s4).trans (ret_eq s5))))
end
end K

/-! M21g: what the methods answer -/
namespace K
open PySem L2 G S
def okSs (ss : List Str) : Prop := ∀ s ∈ ss, PyData.strOk s = true
theorem okD_strs {ss : List Str} (h : okSs ss) : okD (.lst (ss.map G.D.str)) = true := by
  have hh : PyData.canLayAll0 (D.toPys (ss.map G.D.str)) = true ∧ PyData.depthAll (D.toPys (ss.map G.D.str)) = 0 := by
    induction ss with
    | nil => exact ⟨rfl, rfl⟩
    | cons n ns ih =>
      obtain ⟨i1, i2⟩ := ih fun s hs => h s (List.mem_cons_of_mem _ hs)
      have h1 := h n List.mem_cons_self
      rw [List.map_cons]
      unfold D.toPys
      simp [PyData.canLayAll0, PyData.depthAll, D.toPy, PyData.canLay0, PyData.depth, i1, i2, h1]
  simp [okD, D.toPy, SeqAt.shaped, PyData.canLay0, PyData.depth, hh.1, hh.2]
theorem okD_tups {ss : List Str} (h : okSs ss) : okD (.tup (ss.map G.D.str)) = true := by
  have hh : PyData.canLayAll0 (D.toPys (ss.map G.D.str)) = true ∧ PyData.depthAll (D.toPys (ss.map G.D.str)) = 0 := by
    induction ss with
    | nil => exact ⟨rfl, rfl⟩
    | cons n ns ih =>
      obtain ⟨i1, i2⟩ := ih fun s hs => h s (List.mem_cons_of_mem _ hs)
      have h1 := h n List.mem_cons_self
      rw [List.map_cons]
      unfold D.toPys
      simp [PyData.canLayAll0, PyData.depthAll, D.toPy, PyData.canLay0, PyData.depth, i1, i2, h1]
  simp [okD, D.toPy, SeqAt.shaped, PyData.canLay0, PyData.depth, hh.1, hh.2]
theorem any_strs (y : Str) : ∀ ss : List Str, ((ss.map G.D.str).any fun z => eqD z (.str y)) = decide (y ∈ ss)
  | [] => by simp
  | s :: ss => by
    rw [List.map_cons, List.any_cons, any_strs y ss, eqD_str]
    by_cases e : s = y
    · simp [e]
    · have : ¬ y = s := fun z => e z.symm
      simp [e, this]
theorem pIn_strs {Γ : Gam} {ss : List Str} (h : okSs ss) {y : Str} (hy : PyData.strOk y = true) (r : Sl Γ) (hr : isL r (ss.map G.D.str)) : pIn (Γ := Γ) (.dat (.str y)) r = some (.dat (.bl (decide (y ∈ ss)))) := by
  have o1 := okD_str hy
  have o2 := okD_strs h
  rcases hr with rfl | rfl <;> simp only [pIn, pInG, Sl.view, o1, o2, Bool.and_self, if_true, any_strs, id, db]
theorem all_flat (ss : List Str) : (ss.map G.D.str).all S.flat = true := by
  rw [List.all_map, List.all_eq_true]
  intro s _
  rfl
theorem flat1 (f : Str → Str) (ss : List Str) : (ss.map fun s => G.D.str (f s)).all S.flat = true := by
  rw [List.all_map, List.all_eq_true]
  intro s _
  rfl
section
variable {K : PySem.W.Frag} {C : Addr}
theorem comp_in (a0 a1 r2 : Sl (gam K C)) (row : List Str) (h2 : isL r2 (row.map G.D.str)) (hR : okSs row) : ∀ ys : List Str, okSs ys → compL [3] (gNm 3) (toT (m2 pIn (.brw 3) (.brw 2))) (mVar 3) (ys.map G.D.str) [a0, a1, r2, .none] = some ((ys.filter fun y => decide (y ∈ row)).map G.D.str, [a0, a1, r2, .none])
  | [], _ => rfl
  | y :: ys, h => by
    have ih := comp_in a0 a1 r2 row h2 hR ys fun s hs => h s (List.mem_cons_of_mem _ hs)
    have p := pIn_strs hR (h y List.mem_cons_self) r2 h2
    have g2 : got (some r2) = some r2 := by rcases h2 with rfl | rfl <;> rfl
    have tg : gNm 3 (.str y) [a0, a1, r2, .none] = some [a0, a1, r2, .dat (.str y)] := by simp [gNm]
    have wp : wipeE [3] [a0, a1, r2, .dat (.str y)] = some [a0, a1, r2, .none] := by simp [wipeE, wipeL, nonOwn]
    have tc : toT (m2 pIn (.brw 3) (.brw 2)) [a0, a1, r2, .dat (.str y)] = some (decide (y ∈ row), [a0, a1, r2, .dat (.str y)]) := by
      have g3 : got (some (.dat (.str y) : Sl (gam K C))) = some (.dat (.str y)) := rfl
      simp only [toT, m2, evA, List.getElem?_cons_succ, List.getElem?_cons_zero, g2, g3, Option.map_some, peek, p]
    rw [List.map_cons]
    unfold compL
    rw [tg]
    simp only [tc]
    by_cases c : y ∈ row
    · rw [decide_eq_true c]
      have v : mVar 3 [a0, a1, r2, .dat (.str y)] = some (.dat (.str y), [a0, a1, r2, .dat (.str y)]) := by simp [mVar]
      simp only [v, wp, ih, Option.map_some]
      rw [List.filter_cons]
      simp [c]
    · rw [decide_eq_false c]
      simp only [wp]
      rw [ih, List.filter_cons]
      simp [c]
theorem eval_by_hand (o : Sd) (x : Str) (hO : okSs o.ord) (hR : okSs ((get o.giv x).getD [])) (hl : o.ord.length ≤ 1000) : f_SE_by_hand (K := K) (C := C) [.obj (true, o), .dat (.str x)] = some (.dat (.tup ((o.ord.filter fun y => decide (y ∈ (get o.giv x).getD [])).map G.D.str)), [.obj (true, o), .dat (.str x)]) := by
  have c := comp_in (K := K) (C := C) (.obj (true, o)) (.dat (.str x)) (.dat (.lst (((get o.giv x).getD []).map G.D.str))) _ (.inr rfl) hR o.ord hO
  have lm : (o.ord.map G.D.str).length ≤ sizeLine := by rw [List.length_map]; exact Nat.le_trans hl (by decide)
  unfold f_SE_by_hand
  rw [bb_SE_by_hand]
  refine (fun_rt (e' := [.obj (true, o), .dat (.str x), .dat (.lst (((get o.giv x).getD []).map G.D.str)), .none]) rfl rfl ?_).trans rfl
  have s1 : mSet 2 (mRow true 0 1) ([.obj (true, o), .dat (.str x)] ++ List.replicate 2 .none : Env (gam K C)) = some (.nx, [.obj (true, o), .dat (.str x), .dat (.lst (((get o.giv x).getD []).map G.D.str)), .none]) := by
    simp [mSet, mRow, pick]
  refine (seq_nx s1).trans (ret_eq ?_)
  have lc : mLc (iSeq (mOrd 0)) [3] (gNm 3) (toT (m2 pIn (.brw 3) (.brw 2))) lb_SE_by_hand_0 ([.obj (true, o), .dat (.str x), .dat (.lst (((get o.giv x).getD []).map G.D.str)), .none] : Env (gam K C)) = some (.lst ((o.ord.filter fun y => decide (y ∈ (get o.giv x).getD [])).map G.D.str), [.obj (true, o), .dat (.str x), .dat (.lst (((get o.giv x).getD []).map G.D.str)), .none]) := by
    have it : iSeq (mOrd 0) ([.obj (true, o), .dat (.str x), .dat (.lst (((get o.giv x).getD []).map G.D.str)), .none] : Env (gam K C)) = some (o.ord.map G.D.str, [.obj (true, o), .dat (.str x), .dat (.lst (((get o.giv x).getD []).map G.D.str)), .none]) := by simp [iSeq, mOrd]
    have wp : wipeE [3] ([.obj (true, o), .dat (.str x), .dat (.lst (((get o.giv x).getD []).map G.D.str)), .none] : Env (gam K C)) = some [.obj (true, o), .dat (.str x), .dat (.lst (((get o.giv x).getD []).map G.D.str)), .none] := by simp [wipeE, wipeL, nonOwn]
    unfold mLc lb_SE_by_hand_0
    rw [it]
    simp only [wp, c, if_pos lm]
    rfl
  simp only [mN, evAs, evA, lc, Option.map_some, peeks, peek, pN1, pTuple, Sl.view]
theorem eval_standings (o : Sd) (x : Str) (hO : okSs o.ord) (hR : okSs ((get o.giv x).getD [] ++ (get o.stm x).getD [])) (hl : o.ord.length ≤ 1000) (hr : ((get o.giv x).getD []).length + ((get o.stm x).getD []).length ≤ 1000) : f_SE_standings_of (K := K) (C := C) [.obj (true, o), .dat (.str x)] = some (.dat (.tup ((o.ord.filter fun y => decide (y ∈ (get o.giv x).getD [] ++ (get o.stm x).getD [])).map G.D.str)), [.obj (true, o), .dat (.str x)]) := by
  have c := comp_in (K := K) (C := C) (.obj (true, o)) (.dat (.str x)) (.lst (((get o.giv x).getD [] ++ (get o.stm x).getD []).map G.D.str)) _ (.inl rfl) hR o.ord hO
  have lm : (o.ord.map G.D.str).length ≤ sizeLine := by rw [List.length_map]; exact Nat.le_trans hl (by decide)
  have lr : (((get o.giv x).getD []).map G.D.str).length + (((get o.stm x).getD []).map G.D.str).length ≤ sizeLine := by rw [List.length_map, List.length_map]; exact Nat.le_trans hr (by decide)
  unfold f_SE_standings_of
  rw [bb_SE_standings_of]
  refine (fun_rt (e' := [.obj (true, o), .dat (.str x), .lst (((get o.giv x).getD [] ++ (get o.stm x).getD []).map G.D.str), .none]) rfl rfl ?_).trans rfl
  have r1 : ∀ env : Env (gam K C), env = [.obj (true, o), .dat (.str x), .none, .none] → mRow true 0 1 env = some (.dat (.lst (((get o.giv x).getD []).map G.D.str)), env) := fun env e => by subst e; simp [mRow, pick]
  have r2 : ∀ env : Env (gam K C), env = [.obj (true, o), .dat (.str x), .none, .none] → mRow false 0 1 env = some (.dat (.lst (((get o.stm x).getD []).map G.D.str)), env) := fun env e => by subst e; simp [mRow, pick]
  have s1 : mSet 2 (m2 pAdd (.ex (mRow true 0 1)) (.ex (mRow false 0 1))) ([.obj (true, o), .dat (.str x)] ++ List.replicate 2 .none : Env (gam K C)) = some (.nx, [.obj (true, o), .dat (.str x), .lst (((get o.giv x).getD [] ++ (get o.stm x).getD []).map G.D.str), .none]) := by
    refine set_eq (i := 2) (s := .lst (((get o.giv x).getD [] ++ (get o.stm x).getD []).map G.D.str)) (e1 := [.obj (true, o), .dat (.str x), .none, .none]) (m2_ex (r1 _ rfl) (r2 _ rfl) ?_) (by simp)
    simp only [pAdd, Sl.view]
    rw [if_pos lr, List.map_append]
  refine (seq_nx s1).trans (ret_eq ?_)
  have lc : mLc (iSeq (mOrd 0)) [3] (gNm 3) (toT (m2 pIn (.brw 3) (.brw 2))) lb_SE_standings_of_0 ([.obj (true, o), .dat (.str x), .lst (((get o.giv x).getD [] ++ (get o.stm x).getD []).map G.D.str), .none] : Env (gam K C)) = some (.lst ((o.ord.filter fun y => decide (y ∈ (get o.giv x).getD [] ++ (get o.stm x).getD [])).map G.D.str), [.obj (true, o), .dat (.str x), .lst (((get o.giv x).getD [] ++ (get o.stm x).getD []).map G.D.str), .none]) := by
    have it : iSeq (mOrd 0) ([.obj (true, o), .dat (.str x), .lst (((get o.giv x).getD [] ++ (get o.stm x).getD []).map G.D.str), .none] : Env (gam K C)) = some (o.ord.map G.D.str, [.obj (true, o), .dat (.str x), .lst (((get o.giv x).getD [] ++ (get o.stm x).getD []).map G.D.str), .none]) := by simp [iSeq, mOrd, -List.map_append]
    have wp : wipeE [3] ([.obj (true, o), .dat (.str x), .lst (((get o.giv x).getD [] ++ (get o.stm x).getD []).map G.D.str), .none] : Env (gam K C)) = some [.obj (true, o), .dat (.str x), .lst (((get o.giv x).getD [] ++ (get o.stm x).getD []).map G.D.str), .none] := by simp [wipeE, wipeL, nonOwn, -List.map_append]
    unfold mLc lb_SE_standings_of_0
    rw [it]
    simp only [wp, c, if_pos lm]
    rfl
  simp only [mN, evAs, evA, lc, Option.map_some, peeks, peek, pN1, pTuple, Sl.view]
theorem eval_keys (o : Sd) (h : o.giv.length + o.stm.length < 64) : f_SE_names (K := K) (C := C) [.obj (true, o)] = some (.lst ((sortS (dd (o.giv.map (·.1) ++ o.stm.map (·.1)))).map G.D.str), [.obj (true, o)]) := by
  have k1 : mKeys true 0 ([.obj (true, o)] : Env (gam K C)) = some (.lst (o.giv.map fun q => .str q.1), [.obj (true, o)]) := by simp [mKeys, pick]
  have k2 : mKeys false 0 ([.obj (true, o)] : Env (gam K C)) = some (.lst (o.stm.map fun q => .str q.1), [.obj (true, o)]) := by simp [mKeys, pick]
  have l : (o.giv.map fun q => G.D.str q.1).length + (o.stm.map fun q => G.D.str q.1).length ≤ sizeLine := by rw [List.length_map, List.length_map]; exact Nat.le_trans (Nat.le_of_lt h) (by decide)
  have a : m2 pAdd (.ex (mKeys true 0)) (.ex (mKeys false 0)) ([.obj (true, o)] : Env (gam K C)) = some (.lst ((o.giv.map (·.1) ++ o.stm.map (·.1)).map G.D.str), [.obj (true, o)]) := by
    refine m2_ex k1 k2 ?_
    simp only [pAdd, Sl.view]
    rw [if_pos l, List.map_append, List.map_map, List.map_map]
    rfl
  have as := allStr_map (o.giv.map (·.1) ++ o.stm.map (·.1))
  have l2 : (o.giv.map (·.1) ++ o.stm.map (·.1)).length < 64 := by rw [List.length_append, List.length_map, List.length_map]; exact h
  unfold f_SE_names b_SE_names
  refine (fun_rt (e' := [.obj (true, o)]) rfl rfl (ret_eq ?_)).trans rfl
  show mSortSet (m2 pAdd (.ex (mKeys true 0)) (.ex (mKeys false 0))) ([.obj (true, o)] : Env (gam K C)) = _
  unfold mSortSet
  rw [a]
  simp only [as]
  rw [if_pos l2]
theorem eval_has (o : Sd) (x : Str) : f_SE_contains (K := K) (C := C) [.obj (true, o), .dat (.str x)] = some (.dat (.bl ((get o.giv x).isSome || (get o.stm x).isSome)), [.obj (true, o), .dat (.str x)]) := by
  have k1 : mInD true 0 1 ([.obj (true, o), .dat (.str x)] : Env (gam K C)) = some (.dat (.bl (get o.giv x).isSome), [.obj (true, o), .dat (.str x)]) := by simp [mInD, pick]
  have k2 : mInD false 0 1 ([.obj (true, o), .dat (.str x)] : Env (gam K C)) = some (.dat (.bl (get o.stm x).isSome), [.obj (true, o), .dat (.str x)]) := by simp [mInD, pick]
  unfold f_SE_contains b_SE_contains
  refine (fun_rt (e' := [.obj (true, o), .dat (.str x)]) rfl rfl (ret_eq ?_)).trans rfl
  show mOrV (mInD true 0 1) (mInD false 0 1) ([.obj (true, o), .dat (.str x)] : Env (gam K C)) = _
  cases q : (get o.giv x).isSome <;> simp [mOrV, k1, k2, q, truth, Sl.view]
theorem eval_size (o : Sd) (h : o.giv.length + o.stm.length < 64) : f_SE_len (K := K) (C := C) [.obj (true, o)] = some (.dat (.int ((sortS (dd (o.giv.map (·.1) ++ o.stm.map (·.1)))).length : Int)), [.obj (true, o)]) := by
  have k := eval_keys (K := K) (C := C) o h
  unfold f_SE_len b_SE_len
  refine (fun_rt (e' := [.obj (true, o)]) rfl rfl (ret_eq ?_)).trans rfl
  have mm : mMethO 1 f_SE_names 0 [] [] ([.obj (true, o)] : Env (gam K C)) = some (.lst ((sortS (dd (o.giv.map (·.1) ++ o.stm.map (·.1)))).map G.D.str), [.obj (true, o)]) := by
    simp [mMethO, evAs, mGo, takeA, got, nonOwn, k, putA]
  show mN (pN1 pLen) [.ex (mMethO 1 f_SE_names 0 [] [])] ([.obj (true, o)] : Env (gam K C)) = _
  simp only [mN, evAs, evA, mm, Option.map_some, peeks, peek, pN1, pLen, Sl.view, di, List.length_map]
theorem th2 {g : Fn (gam K C)} {o : Sd} {x : Str} {r : Sl (gam K C)} (h : g [.obj (true, o), .dat (.str x)] = some (r, [.obj (true, o), .dat (.str x)])) (ok : okRes r = true) : thaw g [.obj (false, o), .dat (.str x)] = some (r, [.obj (false, o), .dat (.str x)]) := by
  simp [thaw, S.flat, h, ok]
theorem th1 {g : Fn (gam K C)} {o : Sd} {r : Sl (gam K C)} (h : g [.obj (true, o)] = some (r, [.obj (true, o)])) (ok : okRes r = true) : thaw g [.obj (false, o)] = some (r, [.obj (false, o)]) := by
  simp [thaw, h, ok]
theorem eval_give (o : Sd) (x y : Str) (b : Bool) (h1 : (pick b o).length < 1000) (h2 : ((get (pick b o) x).getD []).length < 1000) : f_SE_give (K := K) (C := C) [.obj (false, o), .dat (.str x), .dat (.str y), .dat (.bl b)] = some (.dat (.bl (isNew (pick b o) x y)), [.obj (false, give b o x y), .dat (.str x), .dat (.str y), .dat (.bl b)]) := by
  unfold f_SE_give b_SE_give
  refine (fun_rt (e' := [.obj (false, give b o x y), .dat (.str x), .dat (.str y), .dat (.bl b), .none, .none]) rfl rfl ?_).trans rfl
  show mGive ([.obj (false, o), .dat (.str x), .dat (.str y), .dat (.bl b), .none, .none] : Env (gam K C)) = _
  unfold mGive
  simp only
  rw [if_pos ⟨h1, h2⟩]
theorem has0 : (gam K C).has 0 "order" = true ∧ (gam K C).has 0 "given" = true ∧ (gam K C).has 0 "stamped" = true := by
  refine ⟨?_, ?_, ?_⟩
  · show (["order", "given", "stamped"] : List Str).contains "order" = true; decide +kernel
  · show (["order", "given", "stamped"] : List Str).contains "given" = true; decide +kernel
  · show (["order", "given", "stamped"] : List Str).contains "stamped" = true; decide +kernel
theorem ne1 : ¬ (("order" : Str) = "given") := by decide +kernel
theorem ne2 : ¬ (("order" : Str) = "stamped") := by decide +kernel
theorem ne3 : ¬ (("given" : Str) = "stamped") := by decide +kernel
theorem eval_init (ss : List Str) (a : Sl (gam K C)) (ha : a = .lst (ss.map G.D.str) ∨ a = .dat (.tup (ss.map G.D.str))) : f_SE_init (K := K) (C := C) [.ins 0 [], a] = some (.dat .non, [.ins 0 [("order", .dat (.tup (ss.map G.D.str))), ("given", .dic []), ("stamped", .dic [])], a]) := by
  obtain ⟨z1, z2, z3⟩ := has0 (K := K) (C := C)
  unfold f_SE_init b_SE_init
  rcases ha with rfl | rfl
  · simp [mFun, mSeq, mFSet, mN, evAs, evA, got, peeks, peek, pN1, pTuple, Sl.view, Sl.fd, z1, z2, z3, putFd, mDNew, ne1, ne2, ne3, backE]
  · simp [mFun, mSeq, mFSet, mN, evAs, evA, got, peeks, peek, pN1, pTuple, Sl.view, Sl.fd, z1, z2, z3, putFd, mDNew, ne1, ne2, ne3, backE]
end
end K

/-! M21h: what the law's given answers; pieces of told -/
namespace K
open PySem L2 G S
def okG (gs : List Gf) : Prop := ∀ g ∈ gs, PyData.strOk g.1 = true ∧ PyData.strOk g.2.1 = true
theorem okD_g {g : Gf} (h : PyData.strOk g.1 = true ∧ PyData.strOk g.2.1 = true) : okD (gD g) = true := by
  simp [okD, gD, D.toPy, D.toPys, SeqAt.shaped, PyData.canLay0, PyData.canLayAll0, PyData.depth, PyData.depthAll, h.1, h.2]
theorem okD_gs {gs : List Gf} (h : okG gs) : okD (.lst (gs.map gD)) = true := by
  have hh : PyData.canLayAll0 (D.toPys (gs.map gD)) = true ∧ PyData.depthAll (D.toPys (gs.map gD)) ≤ 1 := by
    induction gs with
    | nil => exact ⟨rfl, by decide⟩
    | cons g gs ih =>
      have h1 := h g List.mem_cons_self
      obtain ⟨i1, i2⟩ := ih fun v hv => h v (List.mem_cons_of_mem _ hv)
      rw [List.map_cons]
      unfold D.toPys
      simp [PyData.canLayAll0, PyData.depthAll, gD, D.toPy, D.toPys, PyData.canLay0, PyData.depth, h1, i1, i2]
  have d := hh.2
  simp [okD, D.toPy, SeqAt.shaped, PyData.canLay0, PyData.depth, hh.1]
  omega
theorem eqD_g (a b : Gf) : eqD (gD a) (gD b) = decide (a = b) := by
  obtain ⟨x, y, z⟩ := a
  obtain ⟨x', y', z'⟩ := b
  simp only [eqD, gD, D.toPy, D.toPys, PyData.eqv, PyData.eqvAll]
  by_cases h1 : x = x'
  · by_cases h2 : y = y'
    · by_cases h3 : z = z' <;> simp [h1, h2, h3]
    · simp [h1, h2]
  · simp [h1]
theorem any_gs (g : Gf) : ∀ gs : List Gf, ((gs.map gD).any fun z => eqD z (gD g)) = decide (g ∈ gs)
  | [] => by simp
  | s :: ss => by
    rw [List.map_cons, List.any_cons, any_gs g ss, eqD_g]
    by_cases e : s = g
    · simp [e]
    · have : ¬ g = s := fun z => e z.symm
      simp [e, this]
theorem pIn_gs {Γ : Gam} {gs : List Gf} (h : okG gs) {g : Gf} (hg : PyData.strOk g.1 = true ∧ PyData.strOk g.2.1 = true) (r : Sl Γ) (hr : isL r (gs.map gD)) : pIn (Γ := Γ) (.dat (gD g)) r = some (.dat (.bl (decide (g ∈ gs)))) := by
  have o1 := okD_g hg
  have o2 := okD_gs h
  rcases hr with rfl | rfl <;> simp only [pIn, pInG, Sl.view, o1, o2, Bool.and_self, if_true, any_gs, id, db]
theorem pNi_gs {Γ : Gam} {gs : List Gf} (h : okG gs) {g : Gf} (hg : PyData.strOk g.1 = true ∧ PyData.strOk g.2.1 = true) (r : Sl Γ) (hr : isL r (gs.map gD)) : pNotIn (Γ := Γ) (.dat (gD g)) r = some (.dat (.bl (!decide (g ∈ gs)))) := by
  have o1 := okD_g hg
  have o2 := okD_gs h
  rcases hr with rfl | rfl <;> simp only [pNotIn, pInG, Sl.view, o1, o2, Bool.and_self, if_true, any_gs, db]
theorem isL_got {Γ : Gam} {r : Sl Γ} {ds : List G.D} (h : isL r ds) : got (some r) = some r := by rcases h with rfl | rfl <;> rfl
theorem eqD_strs (ss : List Str) : eqD (.tup (ss.map G.D.str)) (.tup (ss.map G.D.str)) = true ∧ eqD (.lst (ss.map G.D.str)) (.lst (ss.map G.D.str)) = true := by
  have h : PyData.eqvAll (D.toPys (ss.map G.D.str)) (D.toPys (ss.map G.D.str)) = true := by
    induction ss with
    | nil => rfl
    | cons n ns ih =>
      rw [List.map_cons]
      unfold D.toPys
      simp [PyData.eqvAll, D.toPy, PyData.eqv, ih]
  constructor <;> simp [eqD, D.toPy, PyData.eqv, h]
theorem eqD_nil (ss : List Str) : eqD (.tup (ss.map G.D.str)) (.tup []) = ss.isEmpty := by
  cases ss with
  | nil => rfl
  | cons a r => rfl
theorem eqD_gnil (gs : List Gf) : eqD (.lst (gs.map gD)) (.lst []) = gs.isEmpty := by
  cases gs with
  | nil => rfl
  | cons a r => rfl
theorem pSorted_strs {Γ : Gam} (ss : List Str) (h : ss.length < 64) : pSorted (Γ := Γ) (.lst (ss.map G.D.str)) = some (.lst ((sortS ss).map G.D.str)) := by
  cases ss with
  | nil => rfl
  | cons s ss =>
    have a := allStr_map (s :: ss)
    unfold pSorted
    simp only [Sl.view]
    have n : allInt ((s :: ss).map G.D.str) = none := rfl
    rw [n]
    simp only [a]
    rw [if_pos h]
section
variable {K : PySem.W.Frag} {C : Addr}
theorem eval_given (o : Sd) (g : Gf) (h1 : (pick g.2.2 o).length < 1000) (h2 : ((get (pick g.2.2 o) g.1).getD []).length < 1000) : f_law_given (K := K) (C := C) [.obj (false, o), .dat (gD g)] = some (.dat (.bl (isNew (pick g.2.2 o) g.1 g.2.1)), [.obj (false, give g.2.2 o g.1 g.2.1), .dat (gD g)]) := by
  obtain ⟨x, y, b⟩ := g
  have e := eval_give (K := K) (C := C) o x y b h1 h2
  unfold f_law_given b_law_given gD
  cases b with
  | true => simp [mFun, mSeq, mIfS, toT, m1, m2, mN, evA, evAs, got, peek, peeks, pEq, pNe, pEqG, pLt, pLe, pGt, pGe, pOrd, pIx, Sl.view, mC, mVar, mRet, mNx, mSet, mDrop, mNotT, mNotE, mNotV, mAndT, mOrT, mAndV, mOrV, mIf, mT, truth, db, di, atI, ixN, okD_int, okD_bl, okD_non, eqD_int, eqD_str, eqD_bl, nonOwn, backE, List.replicate, mRetMv, mQ2, mQ1, mQ, evQ, getP, Fd.sl, G.keyOf, pDIn, pDNotIn, pDInG, pDGet, mDPut, setD, mFSet, mMv, Sl.fd, putFd, pTupN, allDat, mDNew, iSeq, mFor, forL, gTp, gNm, gAll, mMethO, mGo, takeA, putA, e]
  | false => simp [mFun, mSeq, mIfS, toT, m1, m2, mN, evA, evAs, got, peek, peeks, pEq, pNe, pEqG, pLt, pLe, pGt, pGe, pOrd, pIx, Sl.view, mC, mVar, mRet, mNx, mSet, mDrop, mNotT, mNotE, mNotV, mAndT, mOrT, mAndV, mOrV, mIf, mT, truth, db, di, atI, ixN, okD_int, okD_bl, okD_non, eqD_int, eqD_str, eqD_bl, nonOwn, backE, List.replicate, mRetMv, mQ2, mQ1, mQ, evQ, getP, Fd.sl, G.keyOf, pDIn, pDNotIn, pDInG, pDGet, mDPut, setD, mFSet, mMv, Sl.fd, putFd, pTupN, allDat, mDNew, iSeq, mFor, forL, gTp, gNm, gAll, mMethO, mGo, takeA, putA, e]
theorem comp_h (a0 a2 a3 a5 a7 a8 a9 a1 : Sl (gam K C)) (x : Str) (b : Bool) (gs : List Gf) (h2 : isL a2 (gs.map gD)) (hG : okG gs) (hx : PyData.strOk x = true) : ∀ ys : List Str, okSs ys →
    compL [6] (gNm 6) (toT (m2 pIn (.ex (mN pTupN [.ex (mVar 4), .ex (mVar 6), .ex (mC (.bl b))])) (.brw 2))) (mVar 6) (ys.map G.D.str) [a0, a1, a2, a3, .dat (.str x), a5, .none, a7, a8, a9] = some ((ys.filter fun y => decide ((x, y, b) ∈ gs)).map G.D.str, [a0, a1, a2, a3, .dat (.str x), a5, .none, a7, a8, a9])
  | [], _ => rfl
  | y :: ys, h => by
    have ih := comp_h a0 a2 a3 a5 a7 a8 a9 a1 x b gs h2 hG hx ys fun s hs => h s (List.mem_cons_of_mem _ hs)
    have p := pIn_gs hG (g := (x, y, b)) ⟨hx, h y List.mem_cons_self⟩ a2 h2
    have g2 := isL_got h2
    have h3 : (3 : Nat) ≤ sizeLine := by decide
    have tg : gNm 6 (.str y) [a0, a1, a2, a3, .dat (.str x), a5, .none, a7, a8, a9] = some [a0, a1, a2, a3, .dat (.str x), a5, .dat (.str y), a7, a8, a9] := by simp [gNm]
    have wp : wipeE [6] [a0, a1, a2, a3, .dat (.str x), a5, .dat (.str y), a7, a8, a9] = some [a0, a1, a2, a3, .dat (.str x), a5, .none, a7, a8, a9] := by simp [wipeE, wipeL, nonOwn]
    have t0 : mN pTupN [.ex (mVar 4), .ex (mVar 6), .ex (mC (.bl b))] [a0, a1, a2, a3, .dat (.str x), a5, .dat (.str y), a7, a8, a9] = some (.dat (gD (x, y, b)), [a0, a1, a2, a3, .dat (.str x), a5, .dat (.str y), a7, a8, a9]) := by
      simp [mN, evAs, evA, mVar, mC, peeks, peek, pTupN, allDat, h3, gD]
    have tc : toT (m2 pIn (.ex (mN pTupN [.ex (mVar 4), .ex (mVar 6), .ex (mC (.bl b))])) (.brw 2)) [a0, a1, a2, a3, .dat (.str x), a5, .dat (.str y), a7, a8, a9] = some (decide ((x, y, b) ∈ gs), [a0, a1, a2, a3, .dat (.str x), a5, .dat (.str y), a7, a8, a9]) := by
      have q := m2_eb (i := 2) t0 (show got [a0, a1, a2, a3, .dat (.str x), a5, .dat (.str y), a7, a8, a9][2]? = some a2 from g2) p
      unfold toT
      rw [q]
    rw [List.map_cons]
    unfold compL
    rw [tg]
    simp only [tc]
    by_cases c : (x, y, b) ∈ gs
    · rw [decide_eq_true c]
      have v : mVar 6 [a0, a1, a2, a3, .dat (.str x), a5, .dat (.str y), a7, a8, a9] = some (.dat (.str y), [a0, a1, a2, a3, .dat (.str x), a5, .dat (.str y), a7, a8, a9]) := by simp [mVar]
      simp only [v, wp, ih, Option.map_some]
      rw [List.filter_cons]
      simp [c]
    · rw [decide_eq_false c]
      simp only [wp]
      rw [ih, List.filter_cons]
      simp [c]
theorem comp_e (a0 a2 a3 a5 a7 a8 a9 a1 : Sl (gam K C)) (x : Str) (gs : List Gf) (h2 : isL a2 (gs.map gD)) (hG : okG gs) (hx : PyData.strOk x = true) : ∀ ys : List Str, okSs ys →
    compL [6] (gNm 6) (mOrT (toT (m2 pIn (.ex (mN pTupN [.ex (mVar 4), .ex (mVar 6), .ex (mC (.bl true))])) (.brw 2))) (toT (m2 pIn (.ex (mN pTupN [.ex (mVar 4), .ex (mVar 6), .ex (mC (.bl false))])) (.brw 2)))) (mVar 6) (ys.map G.D.str) [a0, a1, a2, a3, .dat (.str x), a5, .none, a7, a8, a9] = some ((ys.filter fun y => decide ((x, y, true) ∈ gs) || decide ((x, y, false) ∈ gs)).map G.D.str, [a0, a1, a2, a3, .dat (.str x), a5, .none, a7, a8, a9])
  | [], _ => rfl
  | y :: ys, h => by
    have ih := comp_e a0 a2 a3 a5 a7 a8 a9 a1 x gs h2 hG hx ys fun s hs => h s (List.mem_cons_of_mem _ hs)
    have g2 := isL_got h2
    have h3 : (3 : Nat) ≤ sizeLine := by decide
    have tg : gNm 6 (.str y) [a0, a1, a2, a3, .dat (.str x), a5, .none, a7, a8, a9] = some [a0, a1, a2, a3, .dat (.str x), a5, .dat (.str y), a7, a8, a9] := by simp [gNm]
    have wp : wipeE [6] [a0, a1, a2, a3, .dat (.str x), a5, .dat (.str y), a7, a8, a9] = some [a0, a1, a2, a3, .dat (.str x), a5, .none, a7, a8, a9] := by simp [wipeE, wipeL, nonOwn]
    have t0 : ∀ b, mN pTupN [.ex (mVar 4), .ex (mVar 6), .ex (mC (.bl b))] [a0, a1, a2, a3, .dat (.str x), a5, .dat (.str y), a7, a8, a9] = some (.dat (gD (x, y, b)), [a0, a1, a2, a3, .dat (.str x), a5, .dat (.str y), a7, a8, a9]) := fun b => by
      simp [mN, evAs, evA, mVar, mC, peeks, peek, pTupN, allDat, h3, gD]
    have tc : ∀ b, toT (m2 pIn (.ex (mN pTupN [.ex (mVar 4), .ex (mVar 6), .ex (mC (.bl b))])) (.brw 2)) [a0, a1, a2, a3, .dat (.str x), a5, .dat (.str y), a7, a8, a9] = some (decide ((x, y, b) ∈ gs), [a0, a1, a2, a3, .dat (.str x), a5, .dat (.str y), a7, a8, a9]) := fun b => by
      have p := pIn_gs hG (g := (x, y, b)) ⟨hx, h y List.mem_cons_self⟩ a2 h2
      have q := m2_eb (i := 2) (t0 b) (show got [a0, a1, a2, a3, .dat (.str x), a5, .dat (.str y), a7, a8, a9][2]? = some a2 from g2) p
      unfold toT
      rw [q]
    have to : mOrT (toT (m2 pIn (.ex (mN pTupN [.ex (mVar 4), .ex (mVar 6), .ex (mC (.bl true))])) (.brw 2))) (toT (m2 pIn (.ex (mN pTupN [.ex (mVar 4), .ex (mVar 6), .ex (mC (.bl false))])) (.brw 2))) [a0, a1, a2, a3, .dat (.str x), a5, .dat (.str y), a7, a8, a9] = some (decide ((x, y, true) ∈ gs) || decide ((x, y, false) ∈ gs), [a0, a1, a2, a3, .dat (.str x), a5, .dat (.str y), a7, a8, a9]) := by
      unfold mOrT
      rw [tc true]
      cases decide ((x, y, true) ∈ gs)
      · simp only [tc false]; rfl
      · rfl
    rw [List.map_cons]
    unfold compL
    rw [tg]
    simp only [to]
    cases c : (decide ((x, y, true) ∈ gs) || decide ((x, y, false) ∈ gs))
    · simp only [wp]
      rw [ih, List.filter_cons, c]
      rfl
    · have v : mVar 6 [a0, a1, a2, a3, .dat (.str x), a5, .dat (.str y), a7, a8, a9] = some (.dat (.str y), [a0, a1, a2, a3, .dat (.str x), a5, .dat (.str y), a7, a8, a9]) := by simp [mVar]
      simp only [v, wp, ih, Option.map_some]
      rw [List.filter_cons, c]
      rfl
theorem comp_g (a0 a1 a3 a5 a6 a7 a8 a2 : Sl (gam K C)) (x : Str) (hx : PyData.strOk x = true) : ∀ gs : List Gf, okG gs →
    compL [9] (gNm 9) (toT (m2 pEq (.ex (m2 pIx (.brw 9) (.ex (mC (.int 0))))) (.brw 4))) (mVar 9) (gs.map gD) [a0, a1, a2, a3, .dat (.str x), a5, a6, a7, a8, .none] = some ((gs.filter fun g => decide (g.1 = x)).map gD, [a0, a1, a2, a3, .dat (.str x), a5, a6, a7, a8, .none])
  | [], _ => rfl
  | g :: gs, h => by
    have ih := comp_g a0 a1 a3 a5 a6 a7 a8 a2 x hx gs fun s hs => h s (List.mem_cons_of_mem _ hs)
    have hg := h g List.mem_cons_self
    have tg : gNm 9 (gD g) [a0, a1, a2, a3, .dat (.str x), a5, a6, a7, a8, .none] = some [a0, a1, a2, a3, .dat (.str x), a5, a6, a7, a8, .dat (gD g)] := by simp [gNm]
    have wp : wipeE [9] [a0, a1, a2, a3, .dat (.str x), a5, a6, a7, a8, .dat (gD g)] = some [a0, a1, a2, a3, .dat (.str x), a5, a6, a7, a8, .none] := by simp [wipeE, wipeL, nonOwn]
    have t0 : m2 pIx (.brw 9) (.ex (mC (.int 0))) [a0, a1, a2, a3, .dat (.str x), a5, a6, a7, a8, .dat (gD g)] = some (.dat (.str g.1), [a0, a1, a2, a3, .dat (.str x), a5, a6, a7, a8, .dat (gD g)]) := by
      simp [mFun, mSeq, mIfS, toT, m1, m2, mN, evA, evAs, got, peek, peeks, pEq, pNe, pEqG, pLt, pLe, pGt, pGe, pOrd, pIx, Sl.view, mC, mVar, mRet, mNx, mSet, mDrop, mNotT, mNotE, mNotV, mAndT, mOrT, mAndV, mOrV, mIf, mT, truth, db, di, atI, ixN, okD_int, okD_bl, okD_non, eqD_int, eqD_str, eqD_bl, nonOwn, backE, List.replicate, mRetMv, mQ2, mQ1, mQ, evQ, getP, Fd.sl, G.keyOf, pDIn, pDNotIn, pDInG, pDGet, mDPut, setD, mFSet, mMv, Sl.fd, putFd, pTupN, allDat, mDNew, iSeq, mFor, forL, gTp, gNm, gAll, gD]
    have p : pEq (Γ := gam K C) (.dat (.str g.1)) (.dat (.str x)) = some (.dat (.bl (decide (g.1 = x)))) := by
      simp only [pEq, pEqG, Sl.view, okD_str hg.1, okD_str hx, Bool.and_self, if_true, eqD_str, id, db]
    have tc : toT (m2 pEq (.ex (m2 pIx (.brw 9) (.ex (mC (.int 0))))) (.brw 4)) [a0, a1, a2, a3, .dat (.str x), a5, a6, a7, a8, .dat (gD g)] = some (decide (g.1 = x), [a0, a1, a2, a3, .dat (.str x), a5, a6, a7, a8, .dat (gD g)]) := by
      have q := m2_eb (i := 4) t0 (show got [a0, a1, a2, a3, .dat (.str x), a5, a6, a7, a8, .dat (gD g)][4]? = some (.dat (.str x)) from rfl) p
      unfold toT
      rw [q]
    rw [List.map_cons]
    unfold compL
    rw [tg]
    simp only [tc]
    by_cases c : g.1 = x
    · rw [decide_eq_true c]
      have v : mVar 9 [a0, a1, a2, a3, .dat (.str x), a5, a6, a7, a8, .dat (gD g)] = some (.dat (gD g), [a0, a1, a2, a3, .dat (.str x), a5, a6, a7, a8, .dat (gD g)]) := by simp [mVar]
      simp only [v, wp, ih, Option.map_some]
      rw [List.filter_cons]
      simp [c]
    · rw [decide_eq_false c]
      simp only [wp]
      rw [ih, List.filter_cons]
      simp [c]
theorem has_eq (gs : List Gf) (x : Str) : has gs x = !(gs.filter fun g => decide (g.1 = x)).isEmpty := by
  unfold has
  induction gs with
  | nil => rfl
  | cons g gs ih =>
    rw [List.any_cons, List.filter_cons, ih]
    by_cases c : g.1 = x <;> simp [c]
end
end K

/-! M21i: what the law's told answers -/
namespace K
open PySem L2 G S
structure Tc (o : Sd) (gs : List Gf) (ss : List Str) : Prop where
  inv : Inv o gs
  okO : okSs o.ord
  okg : okG gs
  oks : okSs ss
  nd : ss.Nodup
  sm : ∀ g ∈ gs, g.1 ∈ ss
  om : ∀ g ∈ gs, g.2.1 ∈ o.ord
  gl : gs.length ≤ 30
  ol : o.ord.length ≤ 1000
  sl : ss.length < 64
theorem Tc.rowOk {o : Sd} {gs : List Gf} {ss : List Str} (t : Tc o gs ss) (b : Bool) (x : Str) : okSs ((get (pick b o) x).getD []) := fun y hy => (t.okg _ ((t.inv.row b x y).mp hy)).2
theorem toT_eq {Γ : Gam} {f : Ev Γ} {env e1 : Env Γ} {b : Bool} (h : f env = some (.dat (.bl b), e1)) : toT f env = some (b, e1) := by unfold toT; rw [h]
section
variable {K : PySem.W.Frag} {C : Addr}
theorem comp_d (a0 a1 a3 a5 a6 a7 a8 : Sl (gam K C)) (gs : List Gf) (hG : okG gs) (gl : gs.length ≤ 30) : ∀ (ss : List Str) (a2 : Sl (gam K C)), isL a2 (gs.map gD) → okSs ss → ∃ b2, isL b2 (gs.map gD) ∧
    compL [4] (gNm 4) (toT (m2 pNe (.ex (mLc (iSeq (mVar 2)) [9] (gNm 9) (toT (m2 pEq (.ex (m2 pIx (.brw 9) (.ex (mC (.int 0))))) (.brw 4))) lb_law_told_3)) (.ex (mN pLstN [])))) lb_law_told_2 (ss.map G.D.str) [a0, a1, a2, a3, .none, a5, a6, a7, a8, .none] = some ((ss.filter (has gs)).map G.D.str, [a0, a1, b2, a3, .none, a5, a6, a7, a8, .none])
  | [], a2, h2, _ => ⟨a2, h2, rfl⟩
  | x :: ss, a2, h2, h => by
    have hx := h x List.mem_cons_self
    obtain ⟨b2, hb, ih⟩ := comp_d a0 a1 a3 a5 a6 a7 a8 gs hG gl ss (.dat (.lst (gs.map gD))) (.inr rfl) fun s hs => h s (List.mem_cons_of_mem _ hs)
    refine ⟨b2, hb, ?_⟩
    have cg := comp_g (K := K) (C := C) a0 a1 a3 a5 a6 a7 a8 (.dat (.lst (gs.map gD))) x hx gs hG
    have z0 : (0 : Nat) ≤ sizeLine := Nat.zero_le _
    have lm : (gs.map gD).length ≤ sizeLine := by rw [List.length_map]; exact Nat.le_trans gl (by decide)
    have tg : gNm 4 (.str x) [a0, a1, a2, a3, .none, a5, a6, a7, a8, .none] = some [a0, a1, a2, a3, .dat (.str x), a5, a6, a7, a8, .none] := by simp [gNm]
    have wp : wipeE [4] [a0, a1, .dat (.lst (gs.map gD)), a3, .dat (.str x), a5, a6, a7, a8, .none] = some [a0, a1, .dat (.lst (gs.map gD)), a3, .none, a5, a6, a7, a8, .none] := by simp [wipeE, wipeL, nonOwn]
    have lc : mLc (iSeq (mVar 2)) [9] (gNm 9) (toT (m2 pEq (.ex (m2 pIx (.brw 9) (.ex (mC (.int 0))))) (.brw 4))) lb_law_told_3 [a0, a1, a2, a3, .dat (.str x), a5, a6, a7, a8, .none] = some (.lst ((gs.filter fun g => decide (g.1 = x)).map gD), [a0, a1, .dat (.lst (gs.map gD)), a3, .dat (.str x), a5, a6, a7, a8, .none]) := by
      have it : iSeq (mVar 2) [a0, a1, a2, a3, .dat (.str x), a5, a6, a7, a8, .none] = some (gs.map gD, [a0, a1, .dat (.lst (gs.map gD)), a3, .dat (.str x), a5, a6, a7, a8, .none]) := by
        rcases h2 with rfl | rfl <;> simp [iSeq, mVar]
      have wp : wipeE [9] [a0, a1, .dat (.lst (gs.map gD)), a3, .dat (.str x), a5, a6, a7, a8, .none] = some [a0, a1, .dat (.lst (gs.map gD)), a3, .dat (.str x), a5, a6, a7, a8, .none] := by simp [wipeE, wipeL, nonOwn]
      unfold mLc lb_law_told_3
      rw [it]
      simp only [wp, cg, if_pos lm]
      simp [backE]
    have of : okG (gs.filter fun g => decide (g.1 = x)) := fun g hg => hG g (List.mem_filter.mp hg).1
    have tc : toT (m2 pNe (.ex (mLc (iSeq (mVar 2)) [9] (gNm 9) (toT (m2 pEq (.ex (m2 pIx (.brw 9) (.ex (mC (.int 0))))) (.brw 4))) lb_law_told_3)) (.ex (mN pLstN []))) [a0, a1, a2, a3, .dat (.str x), a5, a6, a7, a8, .none] = some (has gs x, [a0, a1, .dat (.lst (gs.map gD)), a3, .dat (.str x), a5, a6, a7, a8, .none]) := by
      have e0 : mN pLstN [] [a0, a1, .dat (.lst (gs.map gD)), a3, .dat (.str x), a5, a6, a7, a8, .none] = some (.lst [], [a0, a1, .dat (.lst (gs.map gD)), a3, .dat (.str x), a5, a6, a7, a8, .none]) := by
        simp only [mN, evAs, peeks, pLstN, allDat, List.length_nil, z0, if_true, Option.map_some]
      have p : pNe (Γ := gam K C) (.lst ((gs.filter fun g => decide (g.1 = x)).map gD)) (.lst []) = some (.dat (.bl (has gs x))) := by
        rw [has_eq]
        simp only [pNe, pEqG, Sl.view, okD_gs of, show okD (.lst []) = true from okD_ints [], Bool.and_self, if_true, eqD_gnil, db]
      exact toT_eq (m2_ex lc e0 p)
    rw [List.map_cons]
    unfold compL
    rw [tg]
    simp only [tc]
    cases c : has gs x
    · simp only [wp]
      rw [ih, List.filter_cons, c]
      rfl
    · have v : lb_law_told_2 [a0, a1, .dat (.lst (gs.map gD)), a3, .dat (.str x), a5, a6, a7, a8, .none] = some (.dat (.str x), [a0, a1, .dat (.lst (gs.map gD)), a3, .dat (.str x), a5, a6, a7, a8, .none]) := by simp [lb_law_told_2, mVar]
      simp only [v, wp, ih, Option.map_some]
      rw [List.filter_cons, c]
      rfl
theorem step_told {o : Sd} {gs : List Gf} {ss : List Str} (t : Tc o gs ss) (x : Str) (hx : PyData.strOk x = true) (a1 a2 a3 s5 s7 s8 : Sl (gam K C)) (h1 : isL a1 (o.ord.map G.D.str)) (h2 : isL a2 (gs.map gD)) :
    ∃ b5 b7, lb_law_told_4 [.obj (false, o), a1, a2, a3, .dat (.str x), s5, .none, s7, s8, .none] = some (.nx, [.obj (false, o), .dat (.lst (o.ord.map G.D.str)), a2, a3, .dat (.str x), b5, .none, b7, s8, .none]) := by
  obtain ⟨hands, hh⟩ : ∃ l, l = o.ord.filter fun y => decide ((x, y, true) ∈ gs) := ⟨_, rfl⟩
  obtain ⟨every, he⟩ : ∃ l, l = o.ord.filter fun y => decide ((x, y, true) ∈ gs) || decide ((x, y, false) ∈ gs) := ⟨_, rfl⟩
  refine ⟨.dat (.tup (hands.map G.D.str)), .dat (.tup (every.map G.D.str)), ?_⟩
  have lm : (o.ord.map G.D.str).length ≤ sizeLine := by rw [List.length_map]; exact Nat.le_trans t.ol (by decide)
  have rg := t.rowOk true x
  have rs := t.rowOk false x
  have r0 := t.inv.row true x
  have r1 := t.inv.row false x
  have rg' : okSs ((get o.giv x).getD []) := rg
  have rs' : okSs ((get o.stm x).getD []) := rs
  have lg := t.inv.rl true x
  have ls := t.inv.rl false x
  have lg' : ((get o.giv x).getD []).length ≤ gs.length := lg
  have ls' : ((get o.stm x).getD []).length ≤ gs.length := ls
  have eh : (o.ord.filter fun y => decide (y ∈ (get o.giv x).getD [])) = hands := by
    rw [hh]
    refine List.filter_congr fun y _ => ?_
    exact decide_eq_decide.mpr (r0 y)
  have ee : (o.ord.filter fun y => decide (y ∈ (get o.giv x).getD [] ++ (get o.stm x).getD [])) = every := by
    rw [he]
    refine List.filter_congr fun y _ => ?_
    have q0 : y ∈ (get o.giv x).getD [] ↔ (x, y, true) ∈ gs := r0 y
    have q1 : y ∈ (get o.stm x).getD [] ↔ (x, y, false) ∈ gs := r1 y
    rw [← Bool.decide_or]
    refine decide_eq_decide.mpr ?_
    rw [List.mem_append, q0, q1]
  have oh : okSs hands := fun y hy => t.okO y (by rw [hh] at hy; exact (List.mem_filter.mp hy).1)
  have oe : okSs every := fun y hy => t.okO y (by rw [he] at hy; exact (List.mem_filter.mp hy).1)
  have mh1 := th2 (eval_by_hand (K := K) (C := C) o x t.okO rg' t.ol) (all_flat _)
  rw [eh] at mh1
  have m2' := th2 (eval_standings (K := K) (C := C) o x t.okO (fun y hy => (List.mem_append.mp hy).elim (rg' y) (rs' y)) t.ol (by have := t.gl; omega)) (all_flat _)
  rw [ee] at m2'
  have m3 := th2 (eval_has (K := K) (C := C) o x) rfl
  have ec : ((get o.giv x).isSome || (get o.stm x).isSome) = !every.isEmpty := by
    have k1 : (get o.giv x).isSome = true ↔ ∃ y, (x, y, true) ∈ gs := t.inv.key true x
    have k2 : (get o.stm x).isSome = true ↔ ∃ y, (x, y, false) ∈ gs := t.inv.key false x
    cases q : every.isEmpty with
    | false =>
      obtain ⟨y, r, ey⟩ : ∃ y r, every = y :: r := by cases every with | nil => cases q | cons y r => exact ⟨y, r, rfl⟩
      have hy : y ∈ every := by rw [ey]; exact List.mem_cons_self
      rw [he, List.mem_filter, Bool.or_eq_true, decide_eq_true_eq, decide_eq_true_eq] at hy
      rcases hy.2 with z | z
      · rw [k1.mpr ⟨y, z⟩]; rfl
      · rw [k2.mpr ⟨y, z⟩, Bool.or_true]; rfl
    | true =>
      have e0 : every = [] := by cases every with | nil => rfl | cons _ _ => cases q
      have no : ∀ y b, (x, y, b) ∉ gs := fun y b z => by
        have : y ∈ every := by
          rw [he, List.mem_filter, Bool.or_eq_true, decide_eq_true_eq, decide_eq_true_eq]
          refine ⟨t.om _ z, ?_⟩
          cases b
          · exact .inr z
          · exact .inl z
        rw [e0] at this
        cases this
      have n1 : (get o.giv x).isSome = false := by
        cases c : (get o.giv x).isSome with
        | false => rfl
        | true => obtain ⟨y, z⟩ := k1.mp c; exact absurd z (no y true)
      have n2 : (get o.stm x).isSome = false := by
        cases c : (get o.stm x).isSome with
        | false => rfl
        | true => obtain ⟨y, z⟩ := k2.mp c; exact absurd z (no y false)
      rw [n1, n2]
      rfl
  rw [ec] at m3
  have c1 := comp_h (K := K) (C := C) (.obj (false, o)) a2 a3 s5 s7 s8 .none (.dat (.lst (o.ord.map G.D.str))) x true gs h2 t.okg hx o.ord t.okO
  rw [← hh] at c1
  have c2 := comp_e (K := K) (C := C) (.obj (false, o)) a2 a3 (.dat (.tup (hands.map G.D.str))) s7 s8 .none (.dat (.lst (o.ord.map G.D.str))) x gs h2 t.okg hx o.ord t.okO
  rw [← he] at c2
  have s1 : (mSet 5 (mN (pN1 pTuple) [.ex (mLc (iSeq (mVar 1)) [6] (gNm 6) (toT (m2 pIn (.ex (mN pTupN [.ex (mVar 4), .ex (mVar 6), .ex (mC (.bl true))])) (.brw 2))) lb_law_told_0)])) [.obj (false, o), a1, a2, a3, .dat (.str x), s5, .none, s7, s8, .none] = some (.nx, [.obj (false, o), .dat (.lst (o.ord.map G.D.str)), a2, a3, .dat (.str x), .dat (.tup (hands.map G.D.str)), .none, s7, s8, .none]) := by
    refine set_eq (i := 5) (s := .dat (.tup (hands.map G.D.str))) (e1 := [.obj (false, o), .dat (.lst (o.ord.map G.D.str)), a2, a3, .dat (.str x), s5, .none, s7, s8, .none]) ?_ (by simp)
    have it : iSeq (mVar 1) [.obj (false, o), a1, a2, a3, .dat (.str x), s5, .none, s7, s8, .none] = some (o.ord.map G.D.str, [.obj (false, o), .dat (.lst (o.ord.map G.D.str)), a2, a3, .dat (.str x), s5, .none, s7, s8, .none]) := by
      rcases h1 with rfl | rfl <;> simp [iSeq, mVar]
    have wp : wipeE [6] [.obj (false, o), .dat (.lst (o.ord.map G.D.str)), a2, a3, .dat (.str x), s5, .none, s7, s8, .none] = some [.obj (false, o), .dat (.lst (o.ord.map G.D.str)), a2, a3, .dat (.str x), s5, .none, s7, s8, .none] := by simp [wipeE, wipeL, nonOwn]
    have lc : mLc (iSeq (mVar 1)) [6] (gNm 6) (toT (m2 pIn (.ex (mN pTupN [.ex (mVar 4), .ex (mVar 6), .ex (mC (.bl true))])) (.brw 2))) lb_law_told_0 [.obj (false, o), a1, a2, a3, .dat (.str x), s5, .none, s7, s8, .none] = some (.lst (hands.map G.D.str), [.obj (false, o), .dat (.lst (o.ord.map G.D.str)), a2, a3, .dat (.str x), s5, .none, s7, s8, .none]) := by
      unfold mLc lb_law_told_0
      rw [it]
      simp only [wp, c1, if_pos lm]
      rfl
    simp only [mN, evAs, evA, lc, Option.map_some, peeks, peek, pN1, pTuple, Sl.view]
  have s2 : (mSet 7 (mN (pN1 pTuple) [.ex (mLc (iSeq (mVar 1)) [6] (gNm 6) (mOrT (toT (m2 pIn (.ex (mN pTupN [.ex (mVar 4), .ex (mVar 6), .ex (mC (.bl true))])) (.brw 2))) (toT (m2 pIn (.ex (mN pTupN [.ex (mVar 4), .ex (mVar 6), .ex (mC (.bl false))])) (.brw 2)))) lb_law_told_1)])) [.obj (false, o), .dat (.lst (o.ord.map G.D.str)), a2, a3, .dat (.str x), .dat (.tup (hands.map G.D.str)), .none, s7, s8, .none] = some (.nx, [.obj (false, o), .dat (.lst (o.ord.map G.D.str)), a2, a3, .dat (.str x), .dat (.tup (hands.map G.D.str)), .none, .dat (.tup (every.map G.D.str)), s8, .none]) := by
    refine set_eq (i := 7) (s := .dat (.tup (every.map G.D.str))) (e1 := [.obj (false, o), .dat (.lst (o.ord.map G.D.str)), a2, a3, .dat (.str x), .dat (.tup (hands.map G.D.str)), .none, s7, s8, .none]) ?_ (by simp)
    have it : iSeq (mVar 1) [.obj (false, o), .dat (.lst (o.ord.map G.D.str)), a2, a3, .dat (.str x), .dat (.tup (hands.map G.D.str)), .none, s7, s8, .none] = some (o.ord.map G.D.str, [.obj (false, o), .dat (.lst (o.ord.map G.D.str)), a2, a3, .dat (.str x), .dat (.tup (hands.map G.D.str)), .none, s7, s8, .none]) := by
      simp [iSeq, mVar]
    have wp : wipeE [6] [.obj (false, o), .dat (.lst (o.ord.map G.D.str)), a2, a3, .dat (.str x), .dat (.tup (hands.map G.D.str)), .none, s7, s8, .none] = some [.obj (false, o), .dat (.lst (o.ord.map G.D.str)), a2, a3, .dat (.str x), .dat (.tup (hands.map G.D.str)), .none, s7, s8, .none] := by simp [wipeE, wipeL, nonOwn]
    have lc : mLc (iSeq (mVar 1)) [6] (gNm 6) (mOrT (toT (m2 pIn (.ex (mN pTupN [.ex (mVar 4), .ex (mVar 6), .ex (mC (.bl true))])) (.brw 2))) (toT (m2 pIn (.ex (mN pTupN [.ex (mVar 4), .ex (mVar 6), .ex (mC (.bl false))])) (.brw 2)))) lb_law_told_1 [.obj (false, o), .dat (.lst (o.ord.map G.D.str)), a2, a3, .dat (.str x), .dat (.tup (hands.map G.D.str)), .none, s7, s8, .none] = some (.lst (every.map G.D.str), [.obj (false, o), .dat (.lst (o.ord.map G.D.str)), a2, a3, .dat (.str x), .dat (.tup (hands.map G.D.str)), .none, s7, s8, .none]) := by
      unfold mLc lb_law_told_1
      rw [it]
      simp only [wp, c2, if_pos lm]
      rfl
    simp only [mN, evAs, evA, lc, Option.map_some, peeks, peek, pN1, pTuple, Sl.view]
  have ms : ∀ (g : Fn (gam K C)) (r : Sl (gam K C)), g [.obj (false, o), .dat (.str x)] = some (r, [.obj (false, o), .dat (.str x)]) → mMethO 2 g 0 [.brw 4] [] [.obj (false, o), .dat (.lst (o.ord.map G.D.str)), a2, a3, .dat (.str x), .dat (.tup (hands.map G.D.str)), .none, .dat (.tup (every.map G.D.str)), s8, .none] = some (r, [.obj (false, o), .dat (.lst (o.ord.map G.D.str)), a2, a3, .dat (.str x), .dat (.tup (hands.map G.D.str)), .none, .dat (.tup (every.map G.D.str)), s8, .none]) := fun g r e => by
    simp [mMethO, evAs, evA, got, mGo, takeA, nonOwn, e, putA]
  have q1 := ms _ _ mh1
  have q2 := ms _ _ m2'
  have q3 : mInO (thaw f_SE_contains) (.brw 4) 0 [.obj (false, o), .dat (.lst (o.ord.map G.D.str)), a2, a3, .dat (.str x), .dat (.tup (hands.map G.D.str)), .none, .dat (.tup (every.map G.D.str)), s8, .none] = some (.dat (.bl (!every.isEmpty)), [.obj (false, o), .dat (.lst (o.ord.map G.D.str)), a2, a3, .dat (.str x), .dat (.tup (hands.map G.D.str)), .none, .dat (.tup (every.map G.D.str)), s8, .none]) := by
    simp [mInO, evA, got, mGo, takeA, nonOwn, m3, putA]
  have nh : pNe (Γ := gam K C) (.dat (.tup (hands.map G.D.str))) (.dat (.tup (hands.map G.D.str))) = some (.dat (.bl false)) := by
    simp only [pNe, pEqG, Sl.view, okD_tups oh, Bool.and_self, if_true, (eqD_strs hands).1, db, Bool.not_true]
  have ne : pNe (Γ := gam K C) (.dat (.tup (every.map G.D.str))) (.dat (.tup (every.map G.D.str))) = some (.dat (.bl false)) := by
    simp only [pNe, pEqG, Sl.view, okD_tups oe, Bool.and_self, if_true, (eqD_strs every).1, db, Bool.not_true]
  have ot : okD (.tup []) = true := okD_tups (ss := []) fun _ h => nomatch h
  have nn : pNe (Γ := gam K C) (.dat (.tup (every.map G.D.str))) (.dat (.tup [])) = some (.dat (.bl (!every.isEmpty))) := by
    simp only [pNe, pEqG, Sl.view, okD_tups oe, ot, Bool.and_self, if_true, eqD_nil, db]
  have z0 : (0 : Nat) ≤ sizeLine := Nat.zero_le _
  generalize hE : ([.obj (false, o), .dat (.lst (o.ord.map G.D.str)), a2, a3, .dat (.str x), .dat (.tup (hands.map G.D.str)), .none, .dat (.tup (every.map G.D.str)), s8, .none] : Env (gam K C)) = ev0 at *
  have g5 : got ev0[5]? = some (.dat (.tup (hands.map G.D.str))) := by rw [← hE]; rfl
  have g7 : got ev0[7]? = some (.dat (.tup (every.map G.D.str))) := by rw [← hE]; rfl
  have s3 : (mIfS (mOrT (toT (m2 pNe (.ex (mMethO 2 (thaw f_SE_by_hand) 0 [.brw 4] [])) (.brw 5))) (toT (m2 pNe (.ex (mMethO 2 (thaw f_SE_standings_of) 0 [.brw 4] [])) (.brw 7)))) (mRet (mC (.bl false))) (mNx)) ev0 = some (.nx, ev0) := by
    have t1 := m2_eb (i := 5) q1 g5 nh
    have t2 := m2_eb (i := 7) q2 g7 ne
    refine (ifs_f (e1 := ev0) ?_).trans rfl
    simp only [mOrT, toT, t1, t2]
  have s4 : (mIfS (mOrT (mNotT (mT (.ex (m1 (pIsi "tuple") (.ex (mMethO 2 (thaw f_SE_by_hand) 0 [.brw 4] [])))))) (mNotT (mT (.ex (m1 (pIsi "tuple") (.ex (mMethO 2 (thaw f_SE_standings_of) 0 [.brw 4] []))))))) (mRet (mC (.bl false))) (mNx)) ev0 = some (.nx, ev0) := by
    have t1 : m1 (pIsi "tuple") (.ex (mMethO 2 (thaw f_SE_by_hand) 0 [.brw 4] [])) ev0 = some (.dat (.bl true), ev0) := m1_ex q1 (by simp [pIsi, Sl.view, isT, db])
    have t2 : m1 (pIsi "tuple") (.ex (mMethO 2 (thaw f_SE_standings_of) 0 [.brw 4] [])) ev0 = some (.dat (.bl true), ev0) := m1_ex q2 (by simp [pIsi, Sl.view, isT, db])
    refine (ifs_f (e1 := ev0) ?_).trans rfl
    simp only [mOrT, mNotT, mT, evA, t1, t2, Option.map_some, peek, truth, Sl.view, Bool.not_true]
  have s5' : (mIfS (toT (m2 pNe (.ex (mInO (thaw f_SE_contains) (.brw 4) 0)) (.ex (m2 pNe (.brw 7) (.ex (mN pTupN [])))))) (mRet (mC (.bl false))) (mNx)) ev0 = some (.nx, ev0) := by
    have e0 : mN pTupN [] ev0 = some (.dat (.tup []), ev0) := by simp only [mN, evAs, peeks, pTupN, allDat, List.length_nil, z0, if_true, Option.map_some]
    have t1 := m2_be (i := 7) g7 e0 g7 nn
    have t2 : pNe (Γ := gam K C) (.dat (.bl (!every.isEmpty))) (.dat (.bl (!every.isEmpty))) = some (.dat (.bl false)) := by
      simp only [pNe, pEqG, Sl.view, okD_bl, Bool.and_self, if_true, eqD_bl, decide_true, db, Bool.not_true]
    have t3 := m2_ex q3 t1 t2
    refine (ifs_f (e1 := ev0) ?_).trans rfl
    exact toT_eq t3
  unfold lb_law_told_4
  exact (seq_nx s1).trans ((seq_nx s2).trans ((seq_nx s3).trans ((seq_nx s4).trans s5')))
theorem loop_told {o : Sd} {gs : List Gf} {ss : List Str} (t : Tc o gs ss) (a2 a3 s8 : Sl (gam K C)) (h2 : isL a2 (gs.map gD)) : ∀ (xs : List Str), okSs xs → ∀ (a1 s4 s5 s7 : Sl (gam K C)), nonOwn s4 = true → isL a1 (o.ord.map G.D.str) → ∃ b1 b4 b5 b7, nonOwn b4 = true ∧ isL b1 (o.ord.map G.D.str) ∧
    forL (gNm 4) lb_law_told_4 (xs.map G.D.str) [.obj (false, o), a1, a2, a3, s4, s5, .none, s7, s8, .none] = some (.nx, [.obj (false, o), b1, a2, a3, b4, b5, .none, b7, s8, .none])
  | [], _, a1, s4, s5, s7, h4, h1 => ⟨a1, s4, s5, s7, h4, h1, rfl⟩
  | x :: xs, h, a1, s4, s5, s7, h4, h1 => by
    obtain ⟨b5, b7, e⟩ := step_told t x (h x List.mem_cons_self) a1 a2 a3 s5 s7 s8 h1 h2
    obtain ⟨b1, b4, c5, c7, q1, q2, q⟩ := loop_told t a2 a3 s8 h2 xs (fun s hs => h s (List.mem_cons_of_mem _ hs)) (.dat (.lst (o.ord.map G.D.str))) (.dat (.str x)) b5 b7 rfl (.inr rfl)
    refine ⟨b1, b4, c5, c7, q1, q2, ?_⟩
    rw [List.map_cons]
    unfold forL
    have tg : gNm 4 (.str x) [.obj (false, o), a1, a2, a3, s4, s5, .none, s7, s8, .none] = some [.obj (false, o), a1, a2, a3, .dat (.str x), s5, .none, s7, s8, .none] := by simp [gNm]
    rw [tg]
    simp only [e]
    exact q
theorem eval_told {o : Sd} {gs : List Gf} {ss : List Str} (t : Tc o gs ss) (a1 a2 a3 : Sl (gam K C)) (h1 : isL a1 (o.ord.map G.D.str)) (h2 : isL a2 (gs.map gD)) (h3 : isL a3 (ss.map G.D.str)) :
    ∃ b1 b2, isL b1 (o.ord.map G.D.str) ∧ isL b2 (gs.map gD) ∧ f_law_told (K := K) (C := C) [.obj (false, o), a1, a2, a3] = some (.dat (.bl true), [.obj (false, o), b1, b2, .dat (.lst (ss.map G.D.str))]) := by
  obtain ⟨b1, b4, b5, b7, q1, q2, lp⟩ := loop_told t a2 (.dat (.lst (ss.map G.D.str))) .none h2 ss t.oks a1 .none .none .none rfl h1
  obtain ⟨b2, hb2, cd⟩ := comp_d (K := K) (C := C) (.obj (false, o)) b1 (.dat (.lst (ss.map G.D.str))) b5 .none b7 .none gs t.okg t.gl ss a2 h2 t.oks
  refine ⟨b1, b2, q2, hb2, ?_⟩
  have ll : o.giv.length + o.stm.length < 64 := by
    have l1 : o.giv.length ≤ gs.length := t.inv.len true
    have l2 : o.stm.length ≤ gs.length := t.inv.len false
    have := t.gl
    omega
  have pm := t.inv.names t.nd t.sm
  have sp := sortS_perm pm
  have nk := th1 (eval_keys (K := K) (C := C) o ll) (all_flat _)
  have nl := th1 (eval_size (K := K) (C := C) o ll) rfl
  rw [sp] at nk nl
  have fl : (ss.filter (has gs)).length < 64 := Nat.lt_of_le_of_lt (List.length_filter_le _ _) t.sl
  have sl : (sortS (ss.filter (has gs))).length < 64 := by
    have := (sortBy_perm sLt (ss.filter (has gs))).length_eq
    show (sortBy sLt (ss.filter (has gs))).length < 64
    omega
  have os : okSs (sortS (ss.filter (has gs))) := fun y hy => t.oks y ((List.mem_filter.mp ((sortBy_perm sLt (ss.filter (has gs))).mem_iff.mp hy)).1)
  have lm : (ss.map G.D.str).length ≤ sizeLine := by rw [List.length_map]; exact Nat.le_trans (Nat.le_of_lt t.sl) (by decide)
  unfold f_law_told
  rw [bb_law_told]
  refine (fun_rt (e' := [.obj (false, o), b1, b2, .dat (.lst (ss.map G.D.str)), b4, b5, .none, b7, .lst ((sortS (ss.filter (has gs))).map G.D.str), .none]) rfl rfl ?_).trans rfl
  have it : iSeq (mVar 3) ([.obj (false, o), a1, a2, a3] ++ List.replicate 6 .none : Env (gam K C)) = some (ss.map G.D.str, [.obj (false, o), a1, a2, .dat (.lst (ss.map G.D.str)), .none, .none, .none, .none, .none, .none]) := by
    rcases h3 with rfl | rfl <;> simp [iSeq, mVar]
  refine (seq_nx (for_eq it lp)).trans ?_
  have s2 : mSet 8 (mN (pN1 pSorted) [.ex (mLc (iSeq (mVar 3)) [4] (gNm 4) (toT (m2 pNe (.ex (mLc (iSeq (mVar 2)) [9] (gNm 9) (toT (m2 pEq (.ex (m2 pIx (.brw 9) (.ex (mC (.int 0))))) (.brw 4))) lb_law_told_3)) (.ex (mN pLstN [])))) lb_law_told_2)]) [.obj (false, o), b1, a2, .dat (.lst (ss.map G.D.str)), b4, b5, .none, b7, .none, .none] = some (.nx, [.obj (false, o), b1, b2, .dat (.lst (ss.map G.D.str)), b4, b5, .none, b7, .lst ((sortS (ss.filter (has gs))).map G.D.str), .none]) := by
    refine set_eq (i := 8) (s := .lst ((sortS (ss.filter (has gs))).map G.D.str)) (e1 := [.obj (false, o), b1, b2, .dat (.lst (ss.map G.D.str)), b4, b5, .none, b7, .none, .none]) ?_ (by simp)
    have lc : mLc (iSeq (mVar 3)) [4] (gNm 4) (toT (m2 pNe (.ex (mLc (iSeq (mVar 2)) [9] (gNm 9) (toT (m2 pEq (.ex (m2 pIx (.brw 9) (.ex (mC (.int 0))))) (.brw 4))) lb_law_told_3)) (.ex (mN pLstN [])))) lb_law_told_2 [.obj (false, o), b1, a2, .dat (.lst (ss.map G.D.str)), b4, b5, .none, b7, .none, .none] = some (.lst ((ss.filter (has gs)).map G.D.str), [.obj (false, o), b1, b2, .dat (.lst (ss.map G.D.str)), b4, b5, .none, b7, .none, .none]) := by
      have it : iSeq (mVar 3) [.obj (false, o), b1, a2, .dat (.lst (ss.map G.D.str)), b4, b5, .none, b7, .none, .none] = some (ss.map G.D.str, [.obj (false, o), b1, a2, .dat (.lst (ss.map G.D.str)), b4, b5, .none, b7, .none, .none]) := by simp [iSeq, mVar]
      have wp : wipeE [4] [.obj (false, o), b1, a2, .dat (.lst (ss.map G.D.str)), b4, b5, .none, b7, .none, .none] = some [.obj (false, o), b1, a2, .dat (.lst (ss.map G.D.str)), .none, b5, .none, b7, .none, .none] := by simp [wipeE, wipeL, q1]
      unfold mLc
      rw [it]
      simp only [wp, if_pos lm]
      unfold mLc at cd
      simp only [cd]
      simp [backE]
    simp only [mN, evAs, evA, lc, Option.map_some, peeks, peek, pN1, pSorted_strs _ fl]
  refine (seq_nx s2).trans (ret_eq ?_)
  have mk : mMethO 1 (thaw f_SE_names) 0 [] [] [.obj (false, o), b1, b2, .dat (.lst (ss.map G.D.str)), b4, b5, .none, b7, .lst ((sortS (ss.filter (has gs))).map G.D.str), .none] = some (.lst ((sortS (ss.filter (has gs))).map G.D.str), [.obj (false, o), b1, b2, .dat (.lst (ss.map G.D.str)), b4, b5, .none, b7, .lst ((sortS (ss.filter (has gs))).map G.D.str), .none]) := by
    simp [mMethO, evAs, got, mGo, takeA, nonOwn, nk, putA]
  have ml : mLenO (thaw f_SE_len) 0 [.obj (false, o), b1, b2, .dat (.lst (ss.map G.D.str)), b4, b5, .none, b7, .lst ((sortS (ss.filter (has gs))).map G.D.str), .none] = some (.dat (.int ((sortS (ss.filter (has gs))).length : Int)), [.obj (false, o), b1, b2, .dat (.lst (ss.map G.D.str)), b4, b5, .none, b7, .lst ((sortS (ss.filter (has gs))).map G.D.str), .none]) := by
    have u1 : (0 : Int) ≤ ((sortS (ss.filter (has gs))).length : Int) ∧ ((sortS (ss.filter (has gs))).length : Int) < 2 ^ 63 := ⟨by omega, by omega⟩
    have gg : mGo 1 (thaw f_SE_len) [.brw 0] [.obj (false, o), b1, b2, .dat (.lst (ss.map G.D.str)), b4, b5, .none, b7, .lst ((sortS (ss.filter (has gs))).map G.D.str), .none] = some (.dat (.int ((sortS (ss.filter (has gs))).length : Int)), [.obj (false, o), b1, b2, .dat (.lst (ss.map G.D.str)), b4, b5, .none, b7, .lst ((sortS (ss.filter (has gs))).map G.D.str), .none]) := by
      simp [got, mGo, takeA, nonOwn, nl, putA]
    unfold mLenO
    simp only [List.getElem?_cons_zero, gg]
    rw [if_pos u1]
  generalize hE : ([.obj (false, o), b1, b2, .dat (.lst (ss.map G.D.str)), b4, b5, .none, b7, .lst ((sortS (ss.filter (has gs))).map G.D.str), .none] : Env (gam K C)) = ev0 at *
  have g8 : got ev0[8]? = some (.lst ((sortS (ss.filter (has gs))).map G.D.str)) := by rw [← hE]; rfl
  have t1 : m1 (pIsi "list") (.ex (mMethO 1 (thaw f_SE_names) 0 [] [])) ev0 = some (.dat (.bl true), ev0) := m1_ex mk (by simp [pIsi, Sl.view, isT, db])
  have t2 : m2 pEq (.ex (mMethO 1 (thaw f_SE_names) 0 [] [])) (.brw 8) ev0 = some (.dat (.bl true), ev0) := m2_eb (i := 8) mk g8 (by simp only [pEq, pEqG, Sl.view, okD_strs os, Bool.and_self, if_true, (eqD_strs (sortS (ss.filter (has gs)))).2, id, db])
  have t3 : mN (pN1 pLen) [.brw 8] ev0 = some (.dat (.int ((sortS (ss.filter (has gs))).length : Int)), ev0) := by
    simp only [mN, evAs, evA, g8, Option.map_some, peeks, peek, pN1, pLen, Sl.view, di, List.length_map]
  have t4 : m2 pEq (.ex (mLenO (thaw f_SE_len) 0)) (.ex (mN (pN1 pLen) [.brw 8])) ev0 = some (.dat (.bl true), ev0) := m2_ex ml t3 (by simp only [pEq, pEqG, Sl.view, okD_int, Bool.and_self, if_true, eqD_int, decide_true, id, db])
  simp only [mAndV, t1, t2, t4, truth, Sl.view]
end
end K

/-! M21j: what the law's filled answers -/
namespace K
open PySem L2 G S
theorem Tc.give {o : Sd} {gs : List Gf} {ss : List Str} (t : Tc o gs ss) (g : Gf) (hl : gs.length < 30) (ok : PyData.strOk g.1 = true ∧ PyData.strOk g.2.1 = true) (sm : g.1 ∈ ss) (om : g.2.1 ∈ o.ord) : Tc (give g.2.2 o g.1 g.2.1) (gs ++ [g]) ss := by
  refine ⟨t.inv.give g.2.2 g.1 g.2.1, by rw [ord_give]; exact t.okO, fun h hh => ?_, t.oks, t.nd, fun h hh => ?_, fun h hh => ?_, by rw [List.length_append]; simp; omega, by rw [ord_give]; exact t.ol, t.sl⟩
  · rcases List.mem_append.mp hh with z | z
    · exact t.okg h z
    · rw [List.mem_singleton.mp z]; exact ok
  · rcases List.mem_append.mp hh with z | z
    · exact t.sm h z
    · rw [List.mem_singleton.mp z]; exact sm
  · rw [ord_give]
    rcases List.mem_append.mp hh with z | z
    · exact t.om h z
    · rw [List.mem_singleton.mp z]; exact om
theorem call_eq {Γ : Gam} {np : Nat} {g : Fn Γ} {as : List (AE Γ)} {env env1 env2 : Env Γ} {xs : List (Ag Γ)} {args args' : List (Sl Γ)} {bs : List (Option Nat)} {r : Sl Γ} (h1 : evAs as env = some (xs, env1)) (h2 : takeA xs env1 = some (args, env2, bs)) (hl : args.length = np) (h3 : g args = some (r, args')) : mCall np g as env = some (r, putA bs args' env2) := by
  unfold mCall
  rw [h1]
  simp only [h2, hl, if_true, h3]
theorem noL_strs (ss : List Str) : (ss.map G.D.str).all noL = true := by
  rw [List.all_map, List.all_eq_true]
  intro s _
  rfl
theorem noL_gs (gs : List Gf) : (gs.map gD).all noL = true := by
  rw [List.all_map, List.all_eq_true]
  intro s _
  rfl
section
variable {K : PySem.W.Frag} {C : Addr}
theorem okL_isL {a b : Sl (gam K C)} {ds : List G.D} (ha : isL a ds) (hb : isL b ds) (h : ds.all noL = true) : okL a b = true := by
  rcases ha with rfl | rfl <;> rcases hb with rfl | rfl <;> exact h
theorem eval_lend {o : Sd} {gs : List Gf} {ss : List Str} (t : Tc o gs ss) (a1 a3 : Sl (gam K C)) (h1 : isL a1 (o.ord.map G.D.str)) (h3 : isL a3 (ss.map G.D.str)) :
    ∃ b1, isL b1 (o.ord.map G.D.str) ∧ lend 2 f_law_told [.obj (false, o), a1, .lst (gs.map gD), a3] = some (.dat (.bl true), [(.obj (false, o) : Sl (gam K C)), b1, .lst (gs.map gD), .dat (.lst (ss.map G.D.str))]) := by
  obtain ⟨b1, b2, q1, q2, e⟩ := eval_told (K := K) (C := C) t a1 (.dat (.lst (gs.map gD))) a3 h1 (.inr rfl) h3
  refine ⟨b1, q1, ?_⟩
  have ok : okLs [(.obj (false, o) : Sl (gam K C)), a1, .lst (gs.map gD), a3] [.obj (false, o), b1, b2, .dat (.lst (ss.map G.D.str))] = true := by
    have k1 := okL_isL h1 q1 (noL_strs _)
    have k2 : okL (.lst (gs.map gD) : Sl (gam K C)) b2 = true := okL_isL (.inl rfl) q2 (noL_gs _)
    have k3 : okL a3 (.dat (.lst (ss.map G.D.str))) = true := okL_isL h3 (.inr rfl) (noL_strs _)
    have k0 : okL (.obj (false, o) : Sl (gam K C)) (.obj (false, o)) = true := rfl
    simp only [okLs, k0, k1, k2, k3, Bool.and_self]
  unfold lend
  show (match f_law_told [.obj (false, o), a1, .dat (.lst (gs.map gD)), a3] with | some (r, args') => _ | none => _) = _
  rw [e]
  simp only
  rw [if_pos ⟨rfl, ok⟩]
  rfl
theorem step_filled {o : Sd} {gs : List Gf} {ss : List Str} (t : Tc o gs ss) (g : Gf) (hl : gs.length < 30) (ok : PyData.strOk g.1 = true ∧ PyData.strOk g.2.1 = true) (sm : g.1 ∈ ss) (om : g.2.1 ∈ o.ord) (a1 a2 a3 : Sl (gam K C)) (h1 : isL a1 (o.ord.map G.D.str)) (h3 : isL a3 (ss.map G.D.str)) :
    ∃ b1, isL b1 (o.ord.map G.D.str) ∧ lb_law_filled_0 [.obj (false, o), a1, a2, a3, .lst (gs.map gD), .dat (gD g)] = some (.nx, [.obj (false, give g.2.2 o g.1 g.2.1), b1, a2, .dat (.lst (ss.map G.D.str)), .lst ((gs ++ [g]).map gD), .dat (gD g)]) := by
  have t' := t.give g hl ok sm om
  have h1' : isL a1 ((give g.2.2 o g.1 g.2.1).ord.map G.D.str) := by rw [ord_give]; exact h1
  obtain ⟨b0, q0, e3⟩ := eval_lend (K := K) (C := C) t' a1 a3 h1' h3
  rw [ord_give] at q0
  have hb : ∃ b1, isL b1 (o.ord.map G.D.str) ∧ ((a1 = .lst (o.ord.map G.D.str) ∧ b1 = b0) ∨ (a1 = .dat (.lst (o.ord.map G.D.str)) ∧ b1 = a1)) := by
    rcases h1 with z | z
    · exact ⟨b0, q0, .inl ⟨z, rfl⟩⟩
    · exact ⟨a1, .inr z, .inr ⟨z, rfl⟩⟩
  obtain ⟨b1, q1, hb⟩ := hb
  refine ⟨b1, q1, ?_⟩
  have len1 : (pick g.2.2 o).length < 1000 := by have := t.inv.len g.2.2; omega
  have len2 : ((get (pick g.2.2 o) g.1).getD []).length < 1000 := by have := t.inv.rl g.2.2 g.1; omega
  have e1 := eval_given (K := K) (C := C) o g len1 len2
  have en : isNew (pick g.2.2 o) g.1 g.2.1 = !decide (g ∈ gs) := t.inv.isNew g.2.2 g.1 g.2.1
  rw [en] at e1
  have pn := pNi_gs (Γ := gam K C) t.okg ok (.lst (gs.map gD)) (.inl rfl)
  have bo := eval_bool (K := K) (C := C) (!decide (g ∈ gs)) (!decide (g ∈ gs))
  simp only [decide_true] at bo
  have ls : (gs.map gD).length < sizeLine := by rw [List.length_map]; exact Nat.lt_trans hl (by decide)
  have eg : (gs ++ [g]).map gD = gs.map gD ++ [gD g] := by rw [List.map_append]; rfl
  have g1 : got (some a1) = some a1 := isL_got h1
  have g3 : got (some a3) = some a3 := isL_got h3
  have s1 : (mIfS (mNotT (mT (.ex (mCall 2 f_law_bool [.ex (mCall 2 f_law_given [.brw 0, .brw 5]), .ex (m2 pNotIn (.brw 5) (.brw 4))])))) (mRet (mC (.bl false))) (mNx)) [.obj (false, o), a1, a2, a3, .lst (gs.map gD), .dat (gD g)] = some (.nx, [.obj (false, give g.2.2 o g.1 g.2.1), a1, a2, a3, .lst (gs.map gD), .dat (gD g)]) := by
    have c1 : mCall 2 f_law_given [.brw 0, .brw 5] [.obj (false, o), a1, a2, a3, .lst (gs.map gD), .dat (gD g)] = some (.dat (.bl (!decide (g ∈ gs))), [.obj (false, give g.2.2 o g.1 g.2.1), a1, a2, a3, .lst (gs.map gD), .dat (gD g)]) := by
      simp [mCall, evAs, evA, got, takeA, nonOwn, e1, putA]
    have c2 : m2 pNotIn (.brw 5) (.brw 4) [.obj (false, give g.2.2 o g.1 g.2.1), a1, a2, a3, .lst (gs.map gD), .dat (gD g)] = some (.dat (.bl (!decide (g ∈ gs))), [.obj (false, give g.2.2 o g.1 g.2.1), a1, a2, a3, .lst (gs.map gD), .dat (gD g)]) := by
      simp [m2, evA, got, peek, pn]
    have c3 : mCall 2 f_law_bool [.ex (mCall 2 f_law_given [.brw 0, .brw 5]), .ex (m2 pNotIn (.brw 5) (.brw 4))] [.obj (false, o), a1, a2, a3, .lst (gs.map gD), .dat (gD g)] = some (.dat (.bl true), [.obj (false, give g.2.2 o g.1 g.2.1), a1, a2, a3, .lst (gs.map gD), .dat (gD g)]) := by
      have ea : evAs [.ex (mCall 2 f_law_given [.brw 0, .brw 5]), .ex (m2 pNotIn (.brw 5) (.brw 4))] [.obj (false, o), a1, a2, a3, .lst (gs.map gD), .dat (gD g)] = some ([.val (.dat (.bl (!decide (g ∈ gs)))), .val (.dat (.bl (!decide (g ∈ gs))))], [.obj (false, give g.2.2 o g.1 g.2.1), a1, a2, a3, .lst (gs.map gD), .dat (gD g)]) := by
        simp only [evAs, evA, c1, c2, Option.map_some]
      exact call_eq ea rfl rfl bo
    refine (ifs_f (e1 := [.obj (false, give g.2.2 o g.1 g.2.1), a1, a2, a3, .lst (gs.map gD), .dat (gD g)]) ?_).trans rfl
    simp only [mNotT, mT, evA, c3, Option.map_some, peek, truth, Sl.view, Bool.not_true]
  have s2 : (mDrop (mMut 4 uAppend [.ex (mVar 5)])) [.obj (false, give g.2.2 o g.1 g.2.1), a1, a2, a3, .lst (gs.map gD), .dat (gD g)] = some (.nx, [.obj (false, give g.2.2 o g.1 g.2.1), a1, a2, a3, .lst ((gs ++ [g]).map gD), .dat (gD g)]) := by
    rw [eg]
    refine drop_eq (s := .dat .non) ?_
    simp [mMut, evAs, evA, mVar, uAppend, peeks, peek, ls]
    have := ls
    rw [List.length_map] at this
    exact this
  have s3 : (mIfS (mNotT (mT (.ex (mCall 4 (lend 2 f_law_told) [.brw 0, .brw 1, .brw 4, .brw 3])))) (mRet (mC (.bl false))) (mNx)) [.obj (false, give g.2.2 o g.1 g.2.1), a1, a2, a3, .lst ((gs ++ [g]).map gD), .dat (gD g)] = some (.nx, [.obj (false, give g.2.2 o g.1 g.2.1), b1, a2, .dat (.lst (ss.map G.D.str)), .lst ((gs ++ [g]).map gD), .dat (gD g)]) := by
    generalize (gs ++ [g]).map gD = gl at e3 ⊢
    have c3 : mCall 4 (lend 2 f_law_told) [.brw 0, .brw 1, .brw 4, .brw 3] [.obj (false, give g.2.2 o g.1 g.2.1), a1, a2, a3, .lst gl, .dat (gD g)] = some (.dat (.bl true), [.obj (false, give g.2.2 o g.1 g.2.1), b1, a2, .dat (.lst (ss.map G.D.str)), .lst gl, .dat (gD g)]) := by
      rcases hb with ⟨rfl, rfl⟩ | ⟨rfl, rfl⟩ <;> rcases h3 with rfl | rfl <;> simp [mCall, evAs, evA, got, takeA, nonOwn, e3, putA]
    refine (ifs_f (e1 := [.obj (false, give g.2.2 o g.1 g.2.1), b1, a2, .dat (.lst (ss.map G.D.str)), .lst gl, .dat (gD g)]) ?_).trans rfl
    simp only [mNotT, mT, evA, c3, Option.map_some, peek, truth, Sl.view, Bool.not_true]
  unfold lb_law_filled_0
  exact (seq_nx s1).trans ((seq_nx s2).trans s3)
end
end K

/-! M21k: what the law's filled answers, whole; draws of gifts -/
namespace K
open PySem L2 G S
theorem Tc.perm {o : Sd} {gs hs : List Gf} {ss : List Str} (t : Tc o gs ss) (hm : ∀ g, g ∈ gs ↔ g ∈ hs) (hl : gs.length = hs.length) : Tc o hs ss :=
  ⟨t.inv.perm hm hl, t.okO, fun g hg => t.okg g ((hm g).mpr hg), t.oks, t.nd, fun g hg => t.sm g ((hm g).mpr hg), fun g hg => t.om g ((hm g).mpr hg), hl ▸ t.gl, t.ol, t.sl⟩
/-- what each gift of a row must be -/
def okRow (row : List Gf) (ord ss : List Str) : Prop := ∀ g ∈ row, g.1 ∈ ss ∧ g.2.1 ∈ ord
section
variable {K : PySem.W.Frag} {C : Addr}
theorem loop_filled {ss : List Str} (a2 : Sl (gam K C)) : ∀ (rest done : List Gf) (o : Sd) (a1 a3 s5 : Sl (gam K C)), Tc o done ss → okRow rest o.ord ss → done.length + rest.length ≤ 30 → isL a1 (o.ord.map G.D.str) → isL a3 (ss.map G.D.str) →
    ∃ o' b1 b3 b5, o'.ord = o.ord ∧ Tc o' (done ++ rest) ss ∧ isL b1 (o.ord.map G.D.str) ∧ isL b3 (ss.map G.D.str) ∧
      forL (gNm 5) lb_law_filled_0 (rest.map gD) [.obj (false, o), a1, a2, a3, .lst (done.map gD), s5] = some (.nx, [.obj (false, o'), b1, a2, b3, .lst ((done ++ rest).map gD), b5])
  | [], done, o, a1, a3, s5, t, _, _, h1, h3 => ⟨o, a1, a3, s5, rfl, by rw [List.append_nil]; exact t, h1, h3, by rw [List.append_nil]; rfl⟩
  | g :: rest, done, o, a1, a3, s5, t, hr, hl, h1, h3 => by
    rw [List.length_cons] at hl
    obtain ⟨q1, q2⟩ := hr g List.mem_cons_self
    have ok : PyData.strOk g.1 = true ∧ PyData.strOk g.2.1 = true := ⟨t.oks _ q1, t.okO _ q2⟩
    obtain ⟨b1, z1, e⟩ := step_filled (K := K) (C := C) t g (by omega) ok q1 q2 a1 a2 a3 h1 h3
    have t' := t.give g (by omega) ok q1 q2
    have od : (give g.2.2 o g.1 g.2.1).ord = o.ord := ord_give _ _ _ _
    obtain ⟨o', c1, c3, c5, k1, k2, k3, k4, k5⟩ := loop_filled a2 rest (done ++ [g]) (give g.2.2 o g.1 g.2.1) b1 (.dat (.lst (ss.map G.D.str))) (.dat (gD g)) t' (by rw [od]; exact fun h hh => hr h (List.mem_cons_of_mem _ hh)) (by rw [List.length_append]; simp; omega) (by rw [od]; exact z1) (.inr rfl)
    have ea : done ++ g :: rest = (done ++ [g]) ++ rest := by simp
    refine ⟨o', c1, c3, c5, k1.trans od, by rw [ea]; exact k2, by rw [od] at k3; exact k3, k4, ?_⟩
    rw [List.map_cons, ea]
    unfold forL
    have tg : gNm 5 (gD g) [.obj (false, o), a1, a2, a3, .lst (done.map gD), s5] = some [.obj (false, o), a1, a2, a3, .lst (done.map gD), .dat (gD g)] := by simp [gNm]
    rw [tg]
    simp only [e]
    exact k5
theorem Tc.start (ord ss : List Str) (ho : okSs ord) (hs : okSs ss) (nd : ss.Nodup) (ol : ord.length ≤ 1000) (sl : ss.length < 64) : Tc ⟨ord, [], []⟩ [] ss := ⟨.nil ord, ho, fun _ h => (nomatch h), hs, nd, fun _ h => (nomatch h), fun _ h => (nomatch h), by simp, ol, sl⟩
theorem eval_filled {ord ss : List Str} {row : List Gf} (t : Tc ⟨ord, [], []⟩ [] ss) (hr : okRow row ord ss) (hl : row.length ≤ 30) (a1 a2 a3 : Sl (gam K C)) (h1 : isL a1 (ord.map G.D.str)) (h2 : isL a2 (row.map gD)) (h3 : isL a3 (ss.map G.D.str)) :
    ∃ o' b1 b3, o'.ord = ord ∧ Tc o' row ss ∧ isL b1 (ord.map G.D.str) ∧ isL b3 (ss.map G.D.str) ∧ f_law_filled (K := K) (C := C) [.obj (false, ⟨ord, [], []⟩), a1, a2, a3] = some (.dat (.bl true), [.obj (false, o'), b1, .dat (.lst (row.map gD)), b3]) := by
  obtain ⟨o', b1, b3, b5, k1, k2, k3, k4, k5⟩ := loop_filled (K := K) (C := C) (.dat (.lst (row.map gD))) row [] ⟨ord, [], []⟩ a1 a3 .none t hr (by simpa using hl) h1 h3
  rw [List.nil_append] at k2 k5
  refine ⟨o', b1, b3, k1, k2, k3, k4, ?_⟩
  have z0 : (0 : Nat) ≤ sizeLine := Nat.zero_le _
  unfold f_law_filled
  rw [bb_law_filled]
  refine (fun_rt (e' := [.obj (false, o'), b1, .dat (.lst (row.map gD)), b3, .lst (row.map gD), b5]) rfl rfl ?_).trans rfl
  have s1 : mSet 4 (mN pLstN []) ([.obj (false, ⟨ord, [], []⟩), a1, a2, a3] ++ List.replicate 2 .none : Env (gam K C)) = some (.nx, [.obj (false, ⟨ord, [], []⟩), a1, a2, a3, .lst [], .none]) := by
    simp [mSet, mN, evAs, peeks, pLstN, allDat]
  refine (seq_nx s1).trans ?_
  have it : iSeq (mVar 2) ([.obj (false, ⟨ord, [], []⟩), a1, a2, a3, .lst [], .none] : Env (gam K C)) = some (row.map gD, [.obj (false, ⟨ord, [], []⟩), a1, .dat (.lst (row.map gD)), a3, .lst [], .none]) := by
    rcases h2 with rfl | rfl <;> simp [iSeq, mVar]
  refine (seq_nx (for_eq it k5)).trans ?_
  rfl
/-- one gift is drawn -/
theorem step_gift (i j : Int) (ord ss : List Str) (ho : ord ≠ []) (hs : ss ≠ []) (lo : ord.length ≤ 1000) (ls : ss.length ≤ 1000) (row : List Gf) (hr : okRow row ord ss) (hl : row.length < 30) (a0 a1 a3 a4 a5 a7 a8 a9 a10 a11 a12 : Sl (gam K C)) (h4 : isL a4 (ord.map G.D.str)) (h5 : isL a5 (ss.map G.D.str)) :
    ∃ g i' j', g.1 ∈ ss ∧ g.2.1 ∈ ord ∧ (mDrop (mMut 6 uAppend [.ex (mN pTupN [.ex (mFrz (mCall 2 f_law_of [.brw 2, .brw 5])), .ex (mFrz (mCall 2 f_law_of [.brw 2, .brw 4])), .ex (m2 pEq (.ex (mCall 2 f_law_take [.brw 2, .ex (mC (.int 2))])) (.ex (mC (.int 1))))])])) [a0, a1, bag i j, a3, a4, a5, .lst (row.map gD), a7, a8, a9, a10, a11, a12] = some (.nx, [a0, a1, bag i' j', a3, a4, a5, .lst ((row ++ [g]).map gD), a7, a8, a9, a10, a11, a12]) := by
  obtain ⟨d1, i1, j1, m1', e1⟩ := eval_of (K := K) (C := C) i j (ss.map G.D.str) a5 h5 (by simpa using hs) (by rw [List.length_map]; omega)
  obtain ⟨d2, i2, j2, m2', e2⟩ := eval_of (K := K) (C := C) i1 j1 (ord.map G.D.str) a4 h4 (by simpa using ho) (by rw [List.length_map]; omega)
  obtain ⟨r, i3, j3, r0, r1, e3⟩ := eval_take (K := K) (C := C) i2 j2 2 (by decide) (by decide)
  obtain ⟨x, hx, rfl⟩ := List.mem_map.mp m1'
  obtain ⟨y, hy, rfl⟩ := List.mem_map.mp m2'
  refine ⟨(x, y, decide (r = 1)), i3, j3, hx, hy, ?_⟩
  have ls : (row.map gD).length < sizeLine := by rw [List.length_map]; exact Nat.lt_trans hl (by decide)
  have eg : (row ++ [(x, y, decide (r = 1))]).map gD = row.map gD ++ [gD (x, y, decide (r = 1))] := by rw [List.map_append]; rfl
  have h3 : (3 : Nat) ≤ sizeLine := by decide
  have g4 := isL_got h4
  have g5 := isL_got h5
  have n4 : nonOwn a4 = true ∨ a4 = .lst (ord.map G.D.str) := by rcases h4 with rfl | rfl; exact .inr rfl; exact .inl rfl
  have n5 : nonOwn a5 = true ∨ a5 = .lst (ss.map G.D.str) := by rcases h5 with rfl | rfl; exact .inr rfl; exact .inl rfl
  rw [eg]
  generalize row.map gD = rl at ls ⊢
  have c1 : mCall 2 f_law_of [.brw 2, .brw 5] [a0, a1, bag i j, a3, a4, a5, .lst rl, a7, a8, a9, a10, a11, a12] = some (.dat (.str x), [a0, a1, bag i1 j1, a3, a4, a5, .lst rl, a7, a8, a9, a10, a11, a12]) := by
    unfold bag at e1 ⊢
    rcases h5 with rfl | rfl <;> simp [mCall, evAs, evA, got, takeA, nonOwn, e1, putA]
  have c2 : mCall 2 f_law_of [.brw 2, .brw 4] [a0, a1, bag i1 j1, a3, a4, a5, .lst rl, a7, a8, a9, a10, a11, a12] = some (.dat (.str y), [a0, a1, bag i2 j2, a3, a4, a5, .lst rl, a7, a8, a9, a10, a11, a12]) := by
    unfold bag at e2 ⊢
    rcases h4 with rfl | rfl <;> simp [mCall, evAs, evA, got, takeA, nonOwn, e2, putA]
  have c3 : mCall 2 f_law_take [.brw 2, .ex (mC (.int 2))] [a0, a1, bag i2 j2, a3, a4, a5, .lst rl, a7, a8, a9, a10, a11, a12] = some (.dat (.int r), [a0, a1, bag i3 j3, a3, a4, a5, .lst rl, a7, a8, a9, a10, a11, a12]) := by
    unfold bag at e3 ⊢
    simp [mCall, evAs, evA, got, mC, takeA, nonOwn, e3, putA]
  have c4 : m2 pEq (.ex (mCall 2 f_law_take [.brw 2, .ex (mC (.int 2))])) (.ex (mC (.int 1))) [a0, a1, bag i2 j2, a3, a4, a5, .lst rl, a7, a8, a9, a10, a11, a12] = some (.dat (.bl (decide (r = 1))), [a0, a1, bag i3 j3, a3, a4, a5, .lst rl, a7, a8, a9, a10, a11, a12]) := m2_ex c3 rfl (by simp only [pEq, pEqG, Sl.view, okD_int, Bool.and_self, if_true, eqD_int, id, db])
  have c5 : mN pTupN [.ex (mFrz (mCall 2 f_law_of [.brw 2, .brw 5])), .ex (mFrz (mCall 2 f_law_of [.brw 2, .brw 4])), .ex (m2 pEq (.ex (mCall 2 f_law_take [.brw 2, .ex (mC (.int 2))])) (.ex (mC (.int 1))))] [a0, a1, bag i j, a3, a4, a5, .lst rl, a7, a8, a9, a10, a11, a12] = some (.dat (gD (x, y, decide (r = 1))), [a0, a1, bag i3 j3, a3, a4, a5, .lst rl, a7, a8, a9, a10, a11, a12]) := by
    have ea : evAs [.ex (mFrz (mCall 2 f_law_of [.brw 2, .brw 5])), .ex (mFrz (mCall 2 f_law_of [.brw 2, .brw 4])), .ex (m2 pEq (.ex (mCall 2 f_law_take [.brw 2, .ex (mC (.int 2))])) (.ex (mC (.int 1))))] [a0, a1, bag i j, a3, a4, a5, .lst rl, a7, a8, a9, a10, a11, a12] = some ([.val (.dat (.str x)), .val (.dat (.str y)), .val (.dat (.bl (decide (r = 1))))], [a0, a1, bag i3 j3, a3, a4, a5, .lst rl, a7, a8, a9, a10, a11, a12]) := by
      simp only [evAs, evA, mFrz, c1, c2, c4, Option.map_some]
    unfold mN
    rw [ea]
    simp only [peeks, peek, pTupN, allDat, List.length_cons, List.length_nil, Nat.zero_add, Nat.reduceAdd, h3, if_true, Option.map_some, gD]
  refine drop_eq (s := .dat .non) ?_
  have ea : evAs [.ex (mN pTupN [.ex (mFrz (mCall 2 f_law_of [.brw 2, .brw 5])), .ex (mFrz (mCall 2 f_law_of [.brw 2, .brw 4])), .ex (m2 pEq (.ex (mCall 2 f_law_take [.brw 2, .ex (mC (.int 2))])) (.ex (mC (.int 1))))])] [a0, a1, bag i j, a3, a4, a5, .lst rl, a7, a8, a9, a10, a11, a12] = some ([.val (.dat (gD (x, y, decide (r = 1))))], [a0, a1, bag i3 j3, a3, a4, a5, .lst rl, a7, a8, a9, a10, a11, a12]) := by
    simp only [evAs, evA, c5, Option.map_some]
  unfold mMut
  simp only [List.getElem?_cons_succ, List.getElem?_cons_zero, ea, peeks, peek, uAppend, ls, if_true, Option.map_some, List.set]
theorem loop_gift (ord ss : List Str) (ho : ord ≠ []) (hs : ss ≠ []) (lo : ord.length ≤ 1000) (ls : ss.length ≤ 1000) (a0 a1 a3 a4 a5 a7 a9 a10 a11 a12 : Sl (gam K C)) (h4 : isL a4 (ord.map G.D.str)) (h5 : isL a5 (ss.map G.D.str)) : ∀ (ds : List G.D) (i j : Int) (row : List Gf) (a8 : Sl (gam K C)), okRow row ord ss → row.length + ds.length ≤ 30 →
    ∃ row' i' j' b8, okRow row' ord ss ∧ row'.length ≤ 30 ∧ forL (gNm 8) ((mDrop (mMut 6 uAppend [.ex (mN pTupN [.ex (mFrz (mCall 2 f_law_of [.brw 2, .brw 5])), .ex (mFrz (mCall 2 f_law_of [.brw 2, .brw 4])), .ex (m2 pEq (.ex (mCall 2 f_law_take [.brw 2, .ex (mC (.int 2))])) (.ex (mC (.int 1))))])]))) ds [a0, a1, bag i j, a3, a4, a5, .lst (row.map gD), a7, a8, a9, a10, a11, a12] = some (.nx, [a0, a1, bag i' j', a3, a4, a5, .lst (row'.map gD), a7, b8, a9, a10, a11, a12])
  | [], i, j, row, a8, hr, hl => ⟨row, i, j, a8, hr, by simpa using hl, rfl⟩
  | d :: ds, i, j, row, a8, hr, hl => by
    rw [List.length_cons] at hl
    obtain ⟨g, i1, j1, q1, q2, e⟩ := step_gift (K := K) (C := C) i j ord ss ho hs lo ls row hr (by omega) a0 a1 a3 a4 a5 a7 (.dat d) a9 a10 a11 a12 h4 h5
    obtain ⟨row', i', j', b8, k1, k2, k3⟩ := loop_gift ord ss ho hs lo ls a0 a1 a3 a4 a5 a7 a9 a10 a11 a12 h4 h5 ds i1 j1 (row ++ [g]) (.dat d) (fun h hh => (List.mem_append.mp hh).elim (hr h) fun z => by rw [List.mem_singleton.mp z]; exact ⟨q1, q2⟩) (by rw [List.length_append]; simp; omega)
    refine ⟨row', i', j', b8, k1, k2, ?_⟩
    unfold forL
    have tg : gNm 8 d [a0, a1, bag i j, a3, a4, a5, .lst (row.map gD), a7, a8, a9, a10, a11, a12] = some [a0, a1, bag i j, a3, a4, a5, .lst (row.map gD), a7, .dat d, a9, a10, a11, a12] := by simp [gNm]
    rw [tg]
    simp only [e]
    exact k3
end
end K

/-! M21l: each statement of the law's loop, by mkM21l.py -/
namespace K
open PySem L2 G S
section
variable {K : PySem.W.Frag} {C : Addr}
theorem lw_0 (ns : List Int) (k : Int) (i j : Int) (e : f_law_bag (K := K) (C := C) [.scr ns, .dat (.int k)] = some (bag i j, [.scr ns, .dat (.int k)])) (s2 s3 s4 s5 s6 s7 s8 s9 s10 s11 s12 : Sl (gam K C)) : (mSet 2 (mCall 2 f_law_bag [.brw 0, .brw 1])) ([.scr ns, .dat (.int k), s2, s3, s4, s5, s6, s7, s8, s9, s10, s11, s12] : Env (gam K C)) = some (.nx, [.scr ns, .dat (.int k), bag i j, s3, s4, s5, s6, s7, s8, s9, s10, s11, s12]) := by
  simp [mFun, mSeq, mIfS, toT, m1, m2, mN, evA, evAs, got, peek, peeks, pEq, pNe, pEqG, pLt, pLe, pGt, pGe, pOrd, pIx, Sl.view, mC, mVar, mRet, mNx, mSet, mDrop, mNotT, mNotE, mNotV, mAndT, mOrT, mAndV, mOrV, mIf, mT, truth, db, di, atI, ixN, okD_int, okD_bl, okD_non, eqD_int, eqD_str, eqD_bl, nonOwn, backE, List.replicate, mRetMv, mQ2, mQ1, mQ, evQ, getP, Fd.sl, G.keyOf, pDIn, pDNotIn, pDInG, pDGet, mDPut, setD, mFSet, mMv, Sl.fd, putFd, pTupN, allDat, mDNew, iSeq, mFor, forL, gTp, gNm, gAll, mCall, takeA, putA, e]
theorem lw_1 (ns : List Int) (k : Int) (i j i1 j1 : Int) (ds : List G.D) (e : f_law_names (K := K) (C := C) [bag i j, .dat (.int 5)] = some (.lst ds, [bag i1 j1, .dat (.int 5)])) (s3 s4 s5 s6 s7 s8 s9 s10 s11 s12 : Sl (gam K C)) : (mSet 3 (mCall 2 f_law_names [.brw 2, .ex (mC (.int 5))])) ([.scr ns, .dat (.int k), bag i j, s3, s4, s5, s6, s7, s8, s9, s10, s11, s12] : Env (gam K C)) = some (.nx, [.scr ns, .dat (.int k), bag i1 j1, .lst ds, s4, s5, s6, s7, s8, s9, s10, s11, s12]) := by
  unfold bag at *
  simp [mFun, mSeq, mIfS, toT, m1, m2, mN, evA, evAs, got, peek, peeks, pEq, pNe, pEqG, pLt, pLe, pGt, pGe, pOrd, pIx, Sl.view, mC, mVar, mRet, mNx, mSet, mDrop, mNotT, mNotE, mNotV, mAndT, mOrT, mAndV, mOrV, mIf, mT, truth, db, di, atI, ixN, okD_int, okD_bl, okD_non, eqD_int, eqD_str, eqD_bl, nonOwn, backE, List.replicate, mRetMv, mQ2, mQ1, mQ, evQ, getP, Fd.sl, G.keyOf, pDIn, pDNotIn, pDInG, pDGet, mDPut, setD, mFSet, mMv, Sl.fd, putFd, pTupN, allDat, mDNew, iSeq, mFor, forL, gTp, gNm, gAll, mCall, takeA, putA, e]
theorem lw_2 (ns : List Int) (k : Int) (i j i1 j1 r : Int) (ds os : List G.D) (e : f_law_take (K := K) (C := C) [bag i j, .dat (.int 2)] = some (.dat (.int r), [bag i1 j1, .dat (.int 2)])) (c : cutD ds none (some (1 + r)) = os) (s4 s5 s6 s7 s8 s9 s10 s11 s12 : Sl (gam K C)) : (mPar3 4 5 6 (m2 pSl2 (.brw 3) (.ex (m2 pAdd (.ex (mC (.int 1))) (.ex (mCall 2 f_law_take [.brw 2, .ex (mC (.int 2))]))))) (mN pLstN []) (mN pLstN [])) ([.scr ns, .dat (.int k), bag i j, .lst ds, s4, s5, s6, s7, s8, s9, s10, s11, s12] : Env (gam K C)) = some (.nx, [.scr ns, .dat (.int k), bag i1 j1, .lst ds, .lst os, .lst [], .lst [], s7, s8, s9, s10, s11, s12]) := by
  have z0 : (0 : Nat) ≤ sizeLine := Nat.zero_le _
  have t0 : mCall 2 f_law_take [.brw 2, .ex (mC (.int 2))] ([.scr ns, .dat (.int k), bag i j, .lst ds, s4, s5, s6, s7, s8, s9, s10, s11, s12] : Env (gam K C)) = some (.dat (.int r), [.scr ns, .dat (.int k), bag i1 j1, .lst ds, s4, s5, s6, s7, s8, s9, s10, s11, s12]) := by
    unfold bag at *
    simp [mFun, mSeq, mIfS, toT, m1, m2, mN, evA, evAs, got, peek, peeks, pEq, pNe, pEqG, pLt, pLe, pGt, pGe, pOrd, pIx, Sl.view, mC, mVar, mRet, mNx, mSet, mDrop, mNotT, mNotE, mNotV, mAndT, mOrT, mAndV, mOrV, mIf, mT, truth, db, di, atI, ixN, okD_int, okD_bl, okD_non, eqD_int, eqD_str, eqD_bl, nonOwn, backE, List.replicate, mRetMv, mQ2, mQ1, mQ, evQ, getP, Fd.sl, G.keyOf, pDIn, pDNotIn, pDInG, pDGet, mDPut, setD, mFSet, mMv, Sl.fd, putFd, pTupN, allDat, mDNew, iSeq, mFor, forL, gTp, gNm, gAll, mCall, takeA, putA, e]
  have t1 : m2 pAdd (.ex (mC (.int 1))) (.ex (mCall 2 f_law_take [.brw 2, .ex (mC (.int 2))])) ([.scr ns, .dat (.int k), bag i j, .lst ds, s4, s5, s6, s7, s8, s9, s10, s11, s12] : Env (gam K C)) = some (.dat (.int (1 + r)), [.scr ns, .dat (.int k), bag i1 j1, .lst ds, s4, s5, s6, s7, s8, s9, s10, s11, s12]) := m2_ex rfl t0 rfl
  have t2 : m2 pSl2 (.brw 3) (.ex (m2 pAdd (.ex (mC (.int 1))) (.ex (mCall 2 f_law_take [.brw 2, .ex (mC (.int 2))])))) ([.scr ns, .dat (.int k), bag i j, .lst ds, s4, s5, s6, s7, s8, s9, s10, s11, s12] : Env (gam K C)) = some (.lst os, [.scr ns, .dat (.int k), bag i1 j1, .lst ds, s4, s5, s6, s7, s8, s9, s10, s11, s12]) := m2_be (s := .lst ds) (s' := .lst ds) rfl t1 rfl (by simp only [pSl2, asInt, pSl, Sl.view, c])
  have t3 : ∀ e : Env (gam K C), mN pLstN [] e = some (.lst [], e) := fun e => by simp only [mN, evAs, peeks, pLstN, allDat, List.length_nil, z0, if_true, Option.map_some]
  unfold mPar3
  rw [t2]
  simp only [t3, List.length_cons, List.length_nil]
  rfl
theorem lw_3t (ns : List Int) (k : Int) (i j i1 j1 r : Int) (hr : r = 1) (ds : List G.D) (e : f_law_take (K := K) (C := C) [bag i j, .dat (.int 2)] = some (.dat (.int r), [bag i1 j1, .dat (.int 2)])) (s3 s5 s6 s7 s8 s9 s10 s11 s12 : Sl (gam K C)) : (mIfS (toT (m2 pEq (.ex (mCall 2 f_law_take [.brw 2, .ex (mC (.int 2))])) (.ex (mC (.int 1))))) (mSet 4 (m1 pRev (.brw 4))) (mNx)) ([.scr ns, .dat (.int k), bag i j, s3, .lst ds, s5, s6, s7, s8, s9, s10, s11, s12] : Env (gam K C)) = some (.nx, [.scr ns, .dat (.int k), bag i1 j1, s3, .lst ds.reverse, s5, s6, s7, s8, s9, s10, s11, s12]) := by
  have t0 : mCall 2 f_law_take [.brw 2, .ex (mC (.int 2))] ([.scr ns, .dat (.int k), bag i j, s3, .lst ds, s5, s6, s7, s8, s9, s10, s11, s12] : Env (gam K C)) = some (.dat (.int r), [.scr ns, .dat (.int k), bag i1 j1, s3, .lst ds, s5, s6, s7, s8, s9, s10, s11, s12]) := by
    unfold bag at *
    simp [mFun, mSeq, mIfS, toT, m1, m2, mN, evA, evAs, got, peek, peeks, pEq, pNe, pEqG, pLt, pLe, pGt, pGe, pOrd, pIx, Sl.view, mC, mVar, mRet, mNx, mSet, mDrop, mNotT, mNotE, mNotV, mAndT, mOrT, mAndV, mOrV, mIf, mT, truth, db, di, atI, ixN, okD_int, okD_bl, okD_non, eqD_int, eqD_str, eqD_bl, nonOwn, backE, List.replicate, mRetMv, mQ2, mQ1, mQ, evQ, getP, Fd.sl, G.keyOf, pDIn, pDNotIn, pDInG, pDGet, mDPut, setD, mFSet, mMv, Sl.fd, putFd, pTupN, allDat, mDNew, iSeq, mFor, forL, gTp, gNm, gAll, mCall, takeA, putA, e]
  have t1 : m2 pEq (.ex (mCall 2 f_law_take [.brw 2, .ex (mC (.int 2))])) (.ex (mC (.int 1))) ([.scr ns, .dat (.int k), bag i j, s3, .lst ds, s5, s6, s7, s8, s9, s10, s11, s12] : Env (gam K C)) = some (.dat (.bl (decide (r = 1))), [.scr ns, .dat (.int k), bag i1 j1, s3, .lst ds, s5, s6, s7, s8, s9, s10, s11, s12]) := m2_ex t0 rfl (by simp only [pEq, pEqG, Sl.view, okD_int, Bool.and_self, if_true, eqD_int, id, db])
  rw [decide_eq_true hr] at t1
  refine (ifs_t (toT_eq t1)).trans ?_
  simp [mSet, m1, evA, got, peek, pRev, Sl.view]
theorem lw_3f (ns : List Int) (k : Int) (i j i1 j1 r : Int) (hr : ¬ r = 1) (ds : List G.D) (e : f_law_take (K := K) (C := C) [bag i j, .dat (.int 2)] = some (.dat (.int r), [bag i1 j1, .dat (.int 2)])) (s3 s5 s6 s7 s8 s9 s10 s11 s12 : Sl (gam K C)) : (mIfS (toT (m2 pEq (.ex (mCall 2 f_law_take [.brw 2, .ex (mC (.int 2))])) (.ex (mC (.int 1))))) (mSet 4 (m1 pRev (.brw 4))) (mNx)) ([.scr ns, .dat (.int k), bag i j, s3, .lst ds, s5, s6, s7, s8, s9, s10, s11, s12] : Env (gam K C)) = some (.nx, [.scr ns, .dat (.int k), bag i1 j1, s3, .lst ds, s5, s6, s7, s8, s9, s10, s11, s12]) := by
  have t0 : mCall 2 f_law_take [.brw 2, .ex (mC (.int 2))] ([.scr ns, .dat (.int k), bag i j, s3, .lst ds, s5, s6, s7, s8, s9, s10, s11, s12] : Env (gam K C)) = some (.dat (.int r), [.scr ns, .dat (.int k), bag i1 j1, s3, .lst ds, s5, s6, s7, s8, s9, s10, s11, s12]) := by
    unfold bag at *
    simp [mFun, mSeq, mIfS, toT, m1, m2, mN, evA, evAs, got, peek, peeks, pEq, pNe, pEqG, pLt, pLe, pGt, pGe, pOrd, pIx, Sl.view, mC, mVar, mRet, mNx, mSet, mDrop, mNotT, mNotE, mNotV, mAndT, mOrT, mAndV, mOrV, mIf, mT, truth, db, di, atI, ixN, okD_int, okD_bl, okD_non, eqD_int, eqD_str, eqD_bl, nonOwn, backE, List.replicate, mRetMv, mQ2, mQ1, mQ, evQ, getP, Fd.sl, G.keyOf, pDIn, pDNotIn, pDInG, pDGet, mDPut, setD, mFSet, mMv, Sl.fd, putFd, pTupN, allDat, mDNew, iSeq, mFor, forL, gTp, gNm, gAll, mCall, takeA, putA, e]
  have t1 : m2 pEq (.ex (mCall 2 f_law_take [.brw 2, .ex (mC (.int 2))])) (.ex (mC (.int 1))) ([.scr ns, .dat (.int k), bag i j, s3, .lst ds, s5, s6, s7, s8, s9, s10, s11, s12] : Env (gam K C)) = some (.dat (.bl (decide (r = 1))), [.scr ns, .dat (.int k), bag i1 j1, s3, .lst ds, s5, s6, s7, s8, s9, s10, s11, s12]) := m2_ex t0 rfl (by simp only [pEq, pEqG, Sl.view, okD_int, Bool.and_self, if_true, eqD_int, id, db])
  rw [decide_eq_false hr] at t1
  exact (ifs_f (toT_eq t1)).trans rfl
theorem one_send (x y : List Nat) (hx : x.length ≤ 8) (hy : y.length ≤ 8) : SX.S x ++ (" at " : Str) ++ SX.S y = SX.S (snd x y) ∧ (SX.S x).length + (" at " : Str).length ≤ sizeLine ∧ (SX.S x ++ (" at " : Str)).length + (SX.S y).length ≤ sizeLine := by
  rw [lit_at, SX.S_cat, SX.S_cat]
  refine ⟨?_, ?_, ?_⟩
  · unfold snd; rw [List.append_assoc]
  · exact Nat.le_trans (show _ ≤ 100 by rw [SX.S_len, SX.S_len]; simp; omega) (by decide)
  · exact Nat.le_trans (show _ ≤ 100 by rw [SX.S_len, SX.S_len]; simp; omega) (by decide)
theorem step_send (x0 x1 x2 x3 x4 x : List Nat) (hx : x.length ≤ 8) (h1 : x1.length ≤ 8) (h2 : x2.length ≤ 8) (zs : List G.D) (hz : zs.length ≤ 100) (s0 s1 s2 s4 s6 s8 s9 s10 s11 s12 : Sl (gam K C)) :
    (mSet 5 (m2 pAdd (.brw 5) (.ex (mN pLstN [.ex (mFrz (m2 pAdd (.ex (m2 pAdd (.brw 7) (.ex (mC (.str " at "))))) (.ex (m2 pIx (.brw 3) (.ex (mC (.int 1))))))), .ex (mFrz (m2 pAdd (.ex (m2 pAdd (.brw 7) (.ex (mC (.str " at "))))) (.ex (m2 pIx (.brw 3) (.ex (mC (.int 2)))))))])))) ([s0, s1, s2, .lst (([x0, x1, x2, x3, x4] : List (List Nat)).map fun x => G.D.str (SX.S x)), s4, .lst zs, s6, .dat (.str (SX.S x)), s8, s9, s10, s11, s12] : Env (gam K C)) = some (.nx, [s0, s1, s2, .lst (([x0, x1, x2, x3, x4] : List (List Nat)).map fun x => G.D.str (SX.S x)), s4, .lst (zs ++ [.str (SX.S (snd x x1)), .str (SX.S (snd x x2))]), s6, .dat (.str (SX.S x)), s8, s9, s10, s11, s12]) := by
  obtain ⟨e1, l1, l1'⟩ := one_send x x1 hx h1
  obtain ⟨e2, l2, l2'⟩ := one_send x x2 hx h2
  have lz : zs.length + 2 ≤ sizeLine := Nat.le_trans (show _ ≤ 200 by omega) (by decide)
  have t2 : (2 : Nat) ≤ sizeLine := by decide
  generalize SX.S x = X at *
  generalize hX1 : SX.S x1 = X1 at *
  generalize hX2 : SX.S x2 = X2 at *
  simp only [List.map_cons, List.map_nil, hX1, hX2]
  generalize SX.S x0 = X0
  generalize SX.S x3 = X3
  generalize SX.S x4 = X4
  simp [mFun, mSeq, mIfS, toT, m1, m2, mN, evA, evAs, got, peek, peeks, pEq, pNe, pEqG, pLt, pLe, pGt, pGe, pOrd, pIx, Sl.view, mC, mVar, mRet, mNx, mSet, mDrop, mNotT, mNotE, mNotV, mAndT, mOrT, mAndV, mOrV, mIf, mT, truth, db, di, atI, ixN, okD_int, okD_bl, okD_non, eqD_int, eqD_str, eqD_bl, nonOwn, backE, List.replicate, mRetMv, mQ2, mQ1, mQ, evQ, getP, Fd.sl, G.keyOf, pDIn, pDNotIn, pDInG, pDGet, mDPut, setD, mFSet, mMv, Sl.fd, putFd, pTupN, allDat, mDNew, iSeq, mFor, forL, gTp, gNm, gAll, mFrz, pAdd, l1, l1', l2', e1, e2, G.ds, pLstN, t2, lz]
theorem lw_4 (ns : List Int) (k : Int) (x0 x1 x2 x3 x4 : List Nat) (h0 : x0.length ≤ 8) (h1 : x1.length ≤ 8) (h2 : x2.length ≤ 8) (s2 s4 s6 s7 s8 s9 s10 s11 s12 : Sl (gam K C)) : (mFor (iSeq (mFrz (m2 pSl2 (.brw 3) (.ex (mC (.int 2)))))) (gNm 7) (mSet 5 (m2 pAdd (.brw 5) (.ex (mN pLstN [.ex (mFrz (m2 pAdd (.ex (m2 pAdd (.brw 7) (.ex (mC (.str " at "))))) (.ex (m2 pIx (.brw 3) (.ex (mC (.int 1))))))), .ex (mFrz (m2 pAdd (.ex (m2 pAdd (.brw 7) (.ex (mC (.str " at "))))) (.ex (m2 pIx (.brw 3) (.ex (mC (.int 2)))))))]))))) ([.scr ns, .dat (.int k), s2, .lst (([x0, x1, x2, x3, x4] : List (List Nat)).map fun x => G.D.str (SX.S x)), s4, .lst [], s6, s7, s8, s9, s10, s11, s12] : Env (gam K C)) = some (.nx, [.scr ns, .dat (.int k), s2, .lst (([x0, x1, x2, x3, x4] : List (List Nat)).map fun x => G.D.str (SX.S x)), s4, .lst (([snd x0 x1, snd x0 x2, snd x1 x1, snd x1 x2] : List (List Nat)).map fun x => G.D.str (SX.S x)), s6, .dat (.str (SX.S x1)), s8, s9, s10, s11, s12]) := by
  have c : cutD (([x0, x1, x2, x3, x4] : List (List Nat)).map fun x => G.D.str (SX.S x)) none (some 2) = [.str (SX.S x0), .str (SX.S x1)] := cut_take _ 2
  have e1 := step_send (K := K) (C := C) x0 x1 x2 x3 x4 x0 h0 h1 h2 [] (by simp) (.scr ns) (.dat (.int k)) s2 s4 s6 s8 s9 s10 s11 s12
  have e2 := step_send (K := K) (C := C) x0 x1 x2 x3 x4 x1 h1 h1 h2 ([] ++ [.str (SX.S (snd x0 x1)), .str (SX.S (snd x0 x2))]) (by simp) (.scr ns) (.dat (.int k)) s2 s4 s6 s8 s9 s10 s11 s12
  have it : iSeq (mFrz (m2 pSl2 (.brw 3) (.ex (mC (.int 2))))) ([.scr ns, .dat (.int k), s2, .lst (([x0, x1, x2, x3, x4] : List (List Nat)).map fun x => G.D.str (SX.S x)), s4, .lst [], s6, s7, s8, s9, s10, s11, s12] : Env (gam K C)) = some ([.str (SX.S x0), .str (SX.S x1)], [.scr ns, .dat (.int k), s2, .lst (([x0, x1, x2, x3, x4] : List (List Nat)).map fun x => G.D.str (SX.S x)), s4, .lst [], s6, s7, s8, s9, s10, s11, s12]) := by
    have q : m2 pSl2 (.brw 3) (.ex (mC (.int 2))) ([.scr ns, .dat (.int k), s2, .lst (([x0, x1, x2, x3, x4] : List (List Nat)).map fun x => G.D.str (SX.S x)), s4, .lst [], s6, s7, s8, s9, s10, s11, s12] : Env (gam K C)) = some (.lst [.str (SX.S x0), .str (SX.S x1)], [.scr ns, .dat (.int k), s2, .lst (([x0, x1, x2, x3, x4] : List (List Nat)).map fun x => G.D.str (SX.S x)), s4, .lst [], s6, s7, s8, s9, s10, s11, s12]) := m2_be (s := .lst (([x0, x1, x2, x3, x4] : List (List Nat)).map fun x => G.D.str (SX.S x))) (s' := .lst (([x0, x1, x2, x3, x4] : List (List Nat)).map fun x => G.D.str (SX.S x))) rfl rfl rfl (by simp only [pSl2, asInt, pSl, Sl.view, c])
    simp only [iSeq, mFrz, q]
  refine for_eq it ?_
  unfold forL
  have g1 : gNm 7 (.str (SX.S x0)) ([.scr ns, .dat (.int k), s2, .lst (([x0, x1, x2, x3, x4] : List (List Nat)).map fun x => G.D.str (SX.S x)), s4, .lst [], s6, s7, s8, s9, s10, s11, s12] : Env (gam K C)) = some [.scr ns, .dat (.int k), s2, .lst (([x0, x1, x2, x3, x4] : List (List Nat)).map fun x => G.D.str (SX.S x)), s4, .lst [], s6, .dat (.str (SX.S x0)), s8, s9, s10, s11, s12] := by simp [gNm]
  rw [g1]
  simp only [e1]
  unfold forL
  have g2 : gNm 7 (.str (SX.S x1)) ([.scr ns, .dat (.int k), s2, .lst (([x0, x1, x2, x3, x4] : List (List Nat)).map fun x => G.D.str (SX.S x)), s4, .lst ([] ++ [.str (SX.S (snd x0 x1)), .str (SX.S (snd x0 x2))]), s6, .dat (.str (SX.S x0)), s8, s9, s10, s11, s12] : Env (gam K C)) = some [.scr ns, .dat (.int k), s2, .lst (([x0, x1, x2, x3, x4] : List (List Nat)).map fun x => G.D.str (SX.S x)), s4, .lst ([] ++ [.str (SX.S (snd x0 x1)), .str (SX.S (snd x0 x2))]), s6, .dat (.str (SX.S x1)), s8, s9, s10, s11, s12] := by simp [gNm]
  rw [g2]
  simp only [e2]
  rfl
theorem lw_5 (ns : List Int) (k : Int) (i j i1 j1 : Int) (r : Nat) (hr : r ≤ 25) (e : f_law_take (K := K) (C := C) [bag i j, .dat (.int 25)] = some (.dat (.int r), [bag i1 j1, .dat (.int 25)])) (ord ss : List Str) (ho : ord ≠ []) (hs : ss ≠ []) (lo : ord.length ≤ 1000) (ls : ss.length ≤ 1000) (s3 s7 s8 s9 s10 s11 s12 : Sl (gam K C)) : ∃ row i' j' b8, okRow row ord ss ∧ row.length ≤ 30 ∧ (mFor (iRng (mCall 2 f_law_take [.brw 2, .ex (mC (.int 25))])) (gNm 8) (mDrop (mMut 6 uAppend [.ex (mN pTupN [.ex (mFrz (mCall 2 f_law_of [.brw 2, .brw 5])), .ex (mFrz (mCall 2 f_law_of [.brw 2, .brw 4])), .ex (m2 pEq (.ex (mCall 2 f_law_take [.brw 2, .ex (mC (.int 2))])) (.ex (mC (.int 1))))])]))) ([.scr ns, .dat (.int k), bag i j, s3, .lst (ord.map G.D.str), .lst (ss.map G.D.str), .lst [], s7, s8, s9, s10, s11, s12] : Env (gam K C)) = some (.nx, [.scr ns, .dat (.int k), bag i' j', s3, .lst (ord.map G.D.str), .lst (ss.map G.D.str), .lst (row.map gD), s7, b8, s9, s10, s11, s12]) := by
  obtain ⟨row, i', j', b8, k1, k2, k3⟩ := loop_gift (K := K) (C := C) ord ss ho hs lo ls (.scr ns) (.dat (.int k)) s3 (.lst (ord.map G.D.str)) (.lst (ss.map G.D.str)) s7 s9 s10 s11 s12 (.inl rfl) (.inl rfl) ((List.range r).map fun (k : Nat) => G.D.int (k : Int)) i1 j1 [] s8 (fun _ h => nomatch h) (by simp; omega)
  refine ⟨row, i', j', b8, k1, k2, ?_⟩
  have t0 : mCall 2 f_law_take [.brw 2, .ex (mC (.int 25))] ([.scr ns, .dat (.int k), bag i j, s3, .lst (ord.map G.D.str), .lst (ss.map G.D.str), .lst [], s7, s8, s9, s10, s11, s12] : Env (gam K C)) = some (.dat (.int r), [.scr ns, .dat (.int k), bag i1 j1, s3, .lst (ord.map G.D.str), .lst (ss.map G.D.str), .lst [], s7, s8, s9, s10, s11, s12]) := by
    unfold bag at *
    simp [mFun, mSeq, mIfS, toT, m1, m2, mN, evA, evAs, got, peek, peeks, pEq, pNe, pEqG, pLt, pLe, pGt, pGe, pOrd, pIx, Sl.view, mC, mVar, mRet, mNx, mSet, mDrop, mNotT, mNotE, mNotV, mAndT, mOrT, mAndV, mOrV, mIf, mT, truth, db, di, atI, ixN, okD_int, okD_bl, okD_non, eqD_int, eqD_str, eqD_bl, nonOwn, backE, List.replicate, mRetMv, mQ2, mQ1, mQ, evQ, getP, Fd.sl, G.keyOf, pDIn, pDNotIn, pDInG, pDGet, mDPut, setD, mFSet, mMv, Sl.fd, putFd, pTupN, allDat, mDNew, iSeq, mFor, forL, gTp, gNm, gAll, mCall, takeA, putA, e]
  have it : iRng (mCall 2 f_law_take [.brw 2, .ex (mC (.int 25))]) ([.scr ns, .dat (.int k), bag i j, s3, .lst (ord.map G.D.str), .lst (ss.map G.D.str), .lst [], s7, s8, s9, s10, s11, s12] : Env (gam K C)) = some ((List.range r).map fun (k : Nat) => G.D.int (k : Int), [.scr ns, .dat (.int k), bag i1 j1, s3, .lst (ord.map G.D.str), .lst (ss.map G.D.str), .lst [], s7, s8, s9, s10, s11, s12]) := by
    unfold iRng
    rw [t0]
    simp only
    rw [if_pos (by omega), Int.toNat_natCast]
  exact for_eq it k3
theorem lw_6 (ns : List Int) (k : Int) (ds : List G.D) (s2 s3 s5 s6 s7 s8 s9 s10 s11 s12 : Sl (gam K C)) : (mSet 9 (mN (pN1 pList) [.brw 4])) ([.scr ns, .dat (.int k), s2, s3, .lst ds, s5, s6, s7, s8, s9, s10, s11, s12] : Env (gam K C)) = some (.nx, [.scr ns, .dat (.int k), s2, s3, .lst ds, s5, s6, s7, s8, .lst ds, s10, s11, s12]) := by
  simp [mFun, mSeq, mIfS, toT, m1, m2, mN, evA, evAs, got, peek, peeks, pEq, pNe, pEqG, pLt, pLe, pGt, pGe, pOrd, pIx, Sl.view, mC, mVar, mRet, mNx, mSet, mDrop, mNotT, mNotE, mNotV, mAndT, mOrT, mAndV, mOrV, mIf, mT, truth, db, di, atI, ixN, okD_int, okD_bl, okD_non, eqD_int, eqD_str, eqD_bl, nonOwn, backE, List.replicate, mRetMv, mQ2, mQ1, mQ, evQ, getP, Fd.sl, G.keyOf, pDIn, pDNotIn, pDInG, pDGet, mDPut, setD, mFSet, mMv, Sl.fd, putFd, pTupN, allDat, mDNew, iSeq, mFor, forL, gTp, gNm, gAll, pN1, pList]
theorem lw_7 (ns : List Int) (k : Int) (ord : List Str) (s2 s3 s5 s6 s7 s8 s10 s11 s12 : Sl (gam K C)) : (mPar 10 11 (mMakeO f_SE_init [.brw 9]) (mMakeO f_SE_init [.ex (mN (pN1 pTuple) [.brw 4])])) ([.scr ns, .dat (.int k), s2, s3, .lst (ord.map G.D.str), s5, s6, s7, s8, .lst (ord.map G.D.str), s10, s11, s12] : Env (gam K C)) = some (.nx, [.scr ns, .dat (.int k), s2, s3, .lst (ord.map G.D.str), s5, s6, s7, s8, .lst (ord.map G.D.str), .obj (false, ⟨ord, [], []⟩), .obj (false, ⟨ord, [], []⟩), s12]) := by
  have as := allStr_map ord
  have e1 := eval_init (K := K) (C := C) ord (.lst (ord.map G.D.str)) (.inl rfl)
  have e2 := eval_init (K := K) (C := C) ord (.dat (.tup (ord.map G.D.str))) (.inr rfl)
  have tb : toOb [("order", .dat (.tup (ord.map G.D.str))), ("given", .dic []), ("stamped", .dic [])] = some ⟨ord, [], []⟩ := by
    simp only [toOb, and_self, if_true, as, Option.map_some]
  have m1' : mMakeO f_SE_init [.brw 9] ([.scr ns, .dat (.int k), s2, s3, .lst (ord.map G.D.str), s5, s6, s7, s8, .lst (ord.map G.D.str), s10, s11, s12] : Env (gam K C)) = some (.obj (false, ⟨ord, [], []⟩), [.scr ns, .dat (.int k), s2, s3, .lst (ord.map G.D.str), s5, s6, s7, s8, .lst (ord.map G.D.str), s10, s11, s12]) := by
    have q : mMake 0 2 f_SE_init [.brw 9] ([.scr ns, .dat (.int k), s2, s3, .lst (ord.map G.D.str), s5, s6, s7, s8, .lst (ord.map G.D.str), s10, s11, s12] : Env (gam K C)) = some (.ins 0 [("order", .dat (.tup (ord.map G.D.str))), ("given", .dic []), ("stamped", .dic [])], [.scr ns, .dat (.int k), s2, s3, .lst (ord.map G.D.str), s5, s6, s7, s8, .lst (ord.map G.D.str), s10, s11, s12]) := by
      simp [mMake, evAs, evA, got, takeA, nonOwn, e1, putA]
    unfold mMakeO
    rw [q]
    simp only [tb, Option.map_some]
  have m2' : mMakeO f_SE_init [.ex (mN (pN1 pTuple) [.brw 4])] ([.scr ns, .dat (.int k), s2, s3, .lst (ord.map G.D.str), s5, s6, s7, s8, .lst (ord.map G.D.str), s10, s11, s12] : Env (gam K C)) = some (.obj (false, ⟨ord, [], []⟩), [.scr ns, .dat (.int k), s2, s3, .lst (ord.map G.D.str), s5, s6, s7, s8, .lst (ord.map G.D.str), s10, s11, s12]) := by
    have t0 : mN (pN1 pTuple) [.brw 4] ([.scr ns, .dat (.int k), s2, s3, .lst (ord.map G.D.str), s5, s6, s7, s8, .lst (ord.map G.D.str), s10, s11, s12] : Env (gam K C)) = some (.dat (.tup (ord.map G.D.str)), [.scr ns, .dat (.int k), s2, s3, .lst (ord.map G.D.str), s5, s6, s7, s8, .lst (ord.map G.D.str), s10, s11, s12]) := by
      simp [mN, evAs, evA, got, peeks, peek, pN1, pTuple, Sl.view]
    have ea : evAs [.ex (mN (pN1 pTuple) [.brw 4])] ([.scr ns, .dat (.int k), s2, s3, .lst (ord.map G.D.str), s5, s6, s7, s8, .lst (ord.map G.D.str), s10, s11, s12] : Env (gam K C)) = some ([.val (.dat (.tup (ord.map G.D.str)))], [.scr ns, .dat (.int k), s2, s3, .lst (ord.map G.D.str), s5, s6, s7, s8, .lst (ord.map G.D.str), s10, s11, s12]) := by
      simp only [evAs, evA, t0, Option.map_some]
    have q : mMake 0 2 f_SE_init [.ex (mN (pN1 pTuple) [.brw 4])] ([.scr ns, .dat (.int k), s2, s3, .lst (ord.map G.D.str), s5, s6, s7, s8, .lst (ord.map G.D.str), s10, s11, s12] : Env (gam K C)) = some (.ins 0 [("order", .dat (.tup (ord.map G.D.str))), ("given", .dic []), ("stamped", .dic [])], [.scr ns, .dat (.int k), s2, s3, .lst (ord.map G.D.str), s5, s6, s7, s8, .lst (ord.map G.D.str), s10, s11, s12]) := by
      unfold mMake
      rw [ea]
      simp only [takeA, Option.map_some, List.length_cons, List.length_nil, Nat.zero_add, Nat.reduceAdd, if_true, e2, putA]
    unfold mMakeO
    rw [q]
    simp only [tb, Option.map_some]
  exact par_eq m1' m2' (by simp) (by simp)
theorem lw_8 (ns : List Int) (k : Int) (ds : List G.D) (s2 s3 s4 s5 s6 s7 s8 s10 s11 s12 : Sl (gam K C)) : (mDrop (mMut 9 uReverse [])) ([.scr ns, .dat (.int k), s2, s3, s4, s5, s6, s7, s8, .lst ds, s10, s11, s12] : Env (gam K C)) = some (.nx, [.scr ns, .dat (.int k), s2, s3, s4, s5, s6, s7, s8, .lst ds.reverse, s10, s11, s12]) := by
  refine drop_eq (s := .dat .non) ?_
  simp [mMut, evAs, peeks, uReverse]
theorem lw_9 (ns : List Int) (k : Int) (ord ss : List Str) (row : List Gf) (t : Tc ⟨ord, [], []⟩ [] ss) (hr : okRow row ord ss) (hl : row.length ≤ 30) (s2 s3 s7 s8 s9 s12 : Sl (gam K C)) : ∃ o1 b4 b5, o1.ord = ord ∧ Tc o1 row ss ∧ isL b4 (ord.map G.D.str) ∧ isL b5 (ss.map G.D.str) ∧ (mIfS (mOrT (mNotT (mT (.ex (mCall 4 f_law_filled [.brw 10, .brw 4, .brw 6, .brw 5])))) (mNotT (mT (.ex (mCall 4 f_law_told [.brw 11, .brw 4, .ex (mN pLstN []), .brw 5]))))) (mRet (mC (.bl false))) (mNx)) ([.scr ns, .dat (.int k), s2, s3, .lst (ord.map G.D.str), .lst (ss.map G.D.str), .lst (row.map gD), s7, s8, s9, .obj (false, ⟨ord, [], []⟩), .obj (false, ⟨ord, [], []⟩), s12] : Env (gam K C)) = some (.nx, [.scr ns, .dat (.int k), s2, s3, b4, b5, .dat (.lst (row.map gD)), s7, s8, s9, .obj (false, o1), .obj (false, ⟨ord, [], []⟩), s12]) := by
  obtain ⟨o1, b1, b3, k1, k2, k3, k4, e1⟩ := eval_filled (K := K) (C := C) t hr hl (.lst (ord.map G.D.str)) (.lst (row.map gD)) (.lst (ss.map G.D.str)) (.inl rfl) (.inl rfl) (.inl rfl)
  obtain ⟨c1, c2, q1, q2, e2⟩ := eval_told (K := K) (C := C) t b1 (.lst ([].map gD)) b3 k3 (.inl rfl) k4
  have z0 : (0 : Nat) ≤ sizeLine := Nat.zero_le _
  have hb : ∃ b4 b5, isL b4 (ord.map G.D.str) ∧ isL b5 (ss.map G.D.str) ∧ mCall 4 f_law_told [.brw 11, .brw 4, .ex (mN pLstN []), .brw 5] ([.scr ns, .dat (.int k), s2, s3, b1, b3, .dat (.lst (row.map gD)), s7, s8, s9, .obj (false, o1), .obj (false, ⟨ord, [], []⟩), s12] : Env (gam K C)) = some (.dat (.bl true), [.scr ns, .dat (.int k), s2, s3, b4, b5, .dat (.lst (row.map gD)), s7, s8, s9, .obj (false, o1), .obj (false, ⟨ord, [], []⟩), s12]) := by
    have e2' : f_law_told (K := K) (C := C) [.obj (false, ⟨ord, [], []⟩), b1, .lst [], b3] = some (.dat (.bl true), [.obj (false, ⟨ord, [], []⟩), c1, c2, .dat (.lst (ss.map G.D.str))]) := e2
    rcases k3 with rfl | rfl <;> rcases k4 with rfl | rfl
    · exact ⟨c1, _, q1, .inr rfl, by simp [mCall, evAs, evA, got, mN, peeks, pLstN, allDat, takeA, nonOwn, e2', putA]⟩
    · exact ⟨c1, _, q1, .inr rfl, by simp [mCall, evAs, evA, got, mN, peeks, pLstN, allDat, takeA, nonOwn, e2', putA]⟩
    · exact ⟨_, _, .inr rfl, .inr rfl, by simp [mCall, evAs, evA, got, mN, peeks, pLstN, allDat, takeA, nonOwn, e2', putA]⟩
    · exact ⟨_, _, .inr rfl, .inr rfl, by simp [mCall, evAs, evA, got, mN, peeks, pLstN, allDat, takeA, nonOwn, e2', putA]⟩
  obtain ⟨b4, b5, h4, h5, c3⟩ := hb
  refine ⟨o1, b4, b5, k1, k2, h4, h5, ?_⟩
  have c0 : mCall 4 f_law_filled [.brw 10, .brw 4, .brw 6, .brw 5] ([.scr ns, .dat (.int k), s2, s3, .lst (ord.map G.D.str), .lst (ss.map G.D.str), .lst (row.map gD), s7, s8, s9, .obj (false, ⟨ord, [], []⟩), .obj (false, ⟨ord, [], []⟩), s12] : Env (gam K C)) = some (.dat (.bl true), [.scr ns, .dat (.int k), s2, s3, b1, b3, .dat (.lst (row.map gD)), s7, s8, s9, .obj (false, o1), .obj (false, ⟨ord, [], []⟩), s12]) := by
    simp [mCall, evAs, evA, got, takeA, nonOwn, e1, putA]
  refine (ifs_f (e1 := [.scr ns, .dat (.int k), s2, s3, b4, b5, .dat (.lst (row.map gD)), s7, s8, s9, .obj (false, o1), .obj (false, ⟨ord, [], []⟩), s12]) ?_).trans rfl
  simp only [mOrT, mNotT, mT, evA, c0, c3, Option.map_some, peek, truth, Sl.view, Bool.not_true]
theorem lw_10 (ns : List Int) (k : Int) (ord ss : List Str) (row : List Gf) (t : Tc ⟨ord, [], []⟩ [] ss) (hr : okRow row ord ss) (hl : row.length ≤ 30) (a4 a5 : Sl (gam K C)) (h4 : isL a4 (ord.map G.D.str)) (h5 : isL a5 (ss.map G.D.str)) (s2 s3 s7 s8 s9 s10 s12 : Sl (gam K C)) : ∃ o2 b4 b5, o2.ord = ord ∧ Tc o2 row ss ∧ isL b4 (ord.map G.D.str) ∧ isL b5 (ss.map G.D.str) ∧ (mIfS (mNotT (mT (.ex (mCall 4 f_law_filled [.brw 11, .brw 4, .ex (m1 pRev (.brw 6)), .brw 5])))) (mRet (mC (.bl false))) (mNx)) ([.scr ns, .dat (.int k), s2, s3, a4, a5, .dat (.lst (row.map gD)), s7, s8, s9, s10, .obj (false, ⟨ord, [], []⟩), s12] : Env (gam K C)) = some (.nx, [.scr ns, .dat (.int k), s2, s3, b4, b5, .dat (.lst (row.map gD)), s7, s8, s9, s10, .obj (false, o2), s12]) := by
  have hr' : okRow row.reverse ord ss := fun g hg => hr g (List.mem_reverse.mp hg)
  obtain ⟨o2, b1, b3, k1, k2, k3, k4, e1⟩ := eval_filled (K := K) (C := C) t hr' (by rw [List.length_reverse]; exact hl) a4 (.lst (row.reverse.map gD)) a5 h4 (.inl rfl) h5
  have k2' : Tc o2 row ss := k2.perm (fun g => List.mem_reverse) (List.length_reverse)
  have hb : ∃ b4 b5, isL b4 (ord.map G.D.str) ∧ isL b5 (ss.map G.D.str) ∧ mCall 4 f_law_filled [.brw 11, .brw 4, .ex (m1 pRev (.brw 6)), .brw 5] ([.scr ns, .dat (.int k), s2, s3, a4, a5, .dat (.lst (row.map gD)), s7, s8, s9, s10, .obj (false, ⟨ord, [], []⟩), s12] : Env (gam K C)) = some (.dat (.bl true), [.scr ns, .dat (.int k), s2, s3, b4, b5, .dat (.lst (row.map gD)), s7, s8, s9, s10, .obj (false, o2), s12]) := by
    have e1' : f_law_filled (K := K) (C := C) [.obj (false, ⟨ord, [], []⟩), a4, .lst (row.map gD).reverse, a5] = some (.dat (.bl true), [.obj (false, o2), b1, .dat (.lst (row.reverse.map gD)), b3]) := by rw [← List.map_reverse]; exact e1
    generalize (row.map gD) = rl at *
    rcases h4 with rfl | rfl <;> rcases h5 with rfl | rfl
    · exact ⟨b1, b3, k3, k4, by simp [mCall, evAs, evA, got, m1, peek, pRev, Sl.view, takeA, nonOwn, e1', putA]⟩
    · exact ⟨b1, _, k3, .inr rfl, by simp [mCall, evAs, evA, got, m1, peek, pRev, Sl.view, takeA, nonOwn, e1', putA]⟩
    · exact ⟨_, b3, .inr rfl, k4, by simp [mCall, evAs, evA, got, m1, peek, pRev, Sl.view, takeA, nonOwn, e1', putA]⟩
    · exact ⟨_, _, .inr rfl, .inr rfl, by simp [mCall, evAs, evA, got, m1, peek, pRev, Sl.view, takeA, nonOwn, e1', putA]⟩
  obtain ⟨b4, b5, h4', h5', c3⟩ := hb
  refine ⟨o2, b4, b5, k1, k2', h4', h5', ?_⟩
  refine (ifs_f (e1 := [.scr ns, .dat (.int k), s2, s3, b4, b5, .dat (.lst (row.map gD)), s7, s8, s9, s10, .obj (false, o2), s12]) ?_).trans rfl
  simp only [mNotT, mT, evA, c3, Option.map_some, peek, truth, Sl.view, Bool.not_true]
theorem lw_11 (ns : List Int) (k : Int) (o1 : Sd) (h : o1.giv.length + o1.stm.length < 64) (s2 s3 s4 s5 s6 s7 s8 s9 s11 s12 : Sl (gam K C)) : (mSet 12 (mMethO 1 (thaw f_SE_names) 10 [] [])) ([.scr ns, .dat (.int k), s2, s3, s4, s5, s6, s7, s8, s9, .obj (false, o1), s11, s12] : Env (gam K C)) = some (.nx, [.scr ns, .dat (.int k), s2, s3, s4, s5, s6, s7, s8, s9, .obj (false, o1), s11, .lst ((sortS (dd (o1.giv.map (·.1) ++ o1.stm.map (·.1)))).map G.D.str)]) := by
  have nk := th1 (eval_keys (K := K) (C := C) o1 h) (all_flat _)
  refine set_eq (i := 12) (s := .lst ((sortS (dd (o1.giv.map (·.1) ++ o1.stm.map (·.1)))).map G.D.str)) (e1 := [.scr ns, .dat (.int k), s2, s3, s4, s5, s6, s7, s8, s9, .obj (false, o1), s11, s12]) ?_ (by simp)
  generalize (sortS (dd (o1.giv.map (·.1) ++ o1.stm.map (·.1)))).map G.D.str = dl at *
  simp [mMethO, evAs, got, mGo, takeA, nonOwn, nk, putA]
theorem lw_12 (ns : List Int) (k : Int) (ds : List G.D) (h : ds.length < sizeLine) (s2 s3 s4 s5 s6 s7 s8 s9 s10 s11 : Sl (gam K C)) : (mDrop (mMut 12 uAppend [.ex (mC (.str "zz"))])) ([.scr ns, .dat (.int k), s2, s3, s4, s5, s6, s7, s8, s9, s10, s11, .lst ds] : Env (gam K C)) = some (.nx, [.scr ns, .dat (.int k), s2, s3, s4, s5, s6, s7, s8, s9, s10, s11, .lst (ds ++ [.str "zz"])]) := by
  refine drop_eq (s := .dat .non) ?_
  simp [mMut, evAs, evA, mC, uAppend, peeks, peek, h]
theorem lw_13 (ns : List Int) (k : Int) (ord ss : List Str) (row : List Gf) (o1 o2 : Sd) (d1 : o1.ord = ord) (d2 : o2.ord = ord) (t1 : Tc o1 row ss) (t2 : Tc o2 row ss) (a4 a5 : Sl (gam K C)) (h4 : isL a4 (ord.map G.D.str)) (h5 : isL a5 (ss.map G.D.str)) (s2 s3 s7 s8 s9 s12 : Sl (gam K C)) : ∃ b4 b5, isL b4 (ord.map G.D.str) ∧ isL b5 (ss.map G.D.str) ∧ (mIfS (mOrT (mNotT (mT (.ex (mCall 4 f_law_told [.brw 10, .brw 4, .brw 6, .brw 5])))) (mNotT (mT (.ex (mCall 4 f_law_told [.brw 11, .brw 4, .brw 6, .brw 5]))))) (mRet (mC (.bl false))) (mNx)) ([.scr ns, .dat (.int k), s2, s3, a4, a5, .dat (.lst (row.map gD)), s7, s8, s9, .obj (false, o1), .obj (false, o2), s12] : Env (gam K C)) = some (.nx, [.scr ns, .dat (.int k), s2, s3, b4, b5, .dat (.lst (row.map gD)), s7, s8, s9, .obj (false, o1), .obj (false, o2), s12]) := by
  have go : ∀ (j : Nat) (o : Sd), ((j = 10 ∧ o = o1) ∨ (j = 11 ∧ o = o2)) → o.ord = ord → Tc o row ss → ∀ (a4 a5 : Sl (gam K C)), isL a4 (ord.map G.D.str) → isL a5 (ss.map G.D.str) → ∃ b4 b5, isL b4 (ord.map G.D.str) ∧ isL b5 (ss.map G.D.str) ∧ mCall 4 f_law_told [.brw j, .brw 4, .brw 6, .brw 5] ([.scr ns, .dat (.int k), s2, s3, a4, a5, .dat (.lst (row.map gD)), s7, s8, s9, .obj (false, o1), .obj (false, o2), s12] : Env (gam K C)) = some (.dat (.bl true), [.scr ns, .dat (.int k), s2, s3, b4, b5, .dat (.lst (row.map gD)), s7, s8, s9, .obj (false, o1), .obj (false, o2), s12]) := fun j o hj od t a4 a5 h4 h5 => by
    obtain ⟨c1, c2, q1, q2, e2⟩ := eval_told (K := K) (C := C) t a4 (.dat (.lst (row.map gD))) a5 (by rw [od]; exact h4) (.inr rfl) h5
    rw [od] at q1
    generalize (row.map gD) = rl at *
    rcases hj with ⟨rfl, rfl⟩ | ⟨rfl, rfl⟩ <;> rcases h4 with rfl | rfl <;> rcases h5 with rfl | rfl
    · exact ⟨c1, _, q1, .inr rfl, by simp [mCall, evAs, evA, got, takeA, nonOwn, e2, putA]⟩
    · exact ⟨c1, _, q1, .inr rfl, by simp [mCall, evAs, evA, got, takeA, nonOwn, e2, putA]⟩
    · exact ⟨_, _, .inr rfl, .inr rfl, by simp [mCall, evAs, evA, got, takeA, nonOwn, e2, putA]⟩
    · exact ⟨_, _, .inr rfl, .inr rfl, by simp [mCall, evAs, evA, got, takeA, nonOwn, e2, putA]⟩
    · exact ⟨c1, _, q1, .inr rfl, by simp [mCall, evAs, evA, got, takeA, nonOwn, e2, putA]⟩
    · exact ⟨c1, _, q1, .inr rfl, by simp [mCall, evAs, evA, got, takeA, nonOwn, e2, putA]⟩
    · exact ⟨_, _, .inr rfl, .inr rfl, by simp [mCall, evAs, evA, got, takeA, nonOwn, e2, putA]⟩
    · exact ⟨_, _, .inr rfl, .inr rfl, by simp [mCall, evAs, evA, got, takeA, nonOwn, e2, putA]⟩
  obtain ⟨c4, c5, z4, z5, e1⟩ := go 10 o1 (.inl ⟨rfl, rfl⟩) d1 t1 a4 a5 h4 h5
  obtain ⟨b4, b5, y4, y5, e2⟩ := go 11 o2 (.inr ⟨rfl, rfl⟩) d2 t2 c4 c5 z4 z5
  refine ⟨b4, b5, y4, y5, ?_⟩
  refine (ifs_f (e1 := [.scr ns, .dat (.int k), s2, s3, b4, b5, .dat (.lst (row.map gD)), s7, s8, s9, .obj (false, o1), .obj (false, o2), s12]) ?_).trans rfl
  simp only [mOrT, mNotT, mT, evA, e1, e2, Option.map_some, peek, truth, Sl.view, Bool.not_true]
end
end K

/-! M21m: one turn of the law's loop; the law is true -/
namespace K
open PySem L2 G S
section
variable {K : PySem.W.Frag} {C : Addr}
theorem comp_l (s0 s1 s2 s3 s4 s5 s6 s8 s9 s10 s11 s12 : Sl (gam K C)) : ∀ zs : List (List Nat × List Nat), (∀ q ∈ zs, Nm q.1 ∧ Nm q.2) →
    compL [7] (gNm 7) (mOrT (toT (m2 pIsNot (.ex (mCall 1 f_is_sender [.brw 7])) (.ex (mC (.bl true))))) (mNotT (mT (.ex (mCall 1 f_law_none [.ex (mCall 1 f_law_bent [.brw 7])]))))) lb_law_0 (zs.map fun q => G.D.str (SX.S (snd q.1 q.2))) [s0, s1, s2, s3, s4, s5, s6, .none, s8, s9, s10, s11, s12] = some ([], [s0, s1, s2, s3, s4, s5, s6, .none, s8, s9, s10, s11, s12])
  | [], _ => rfl
  | q :: zs, h => by
    have ih := comp_l s0 s1 s2 s3 s4 s5 s6 s8 s9 s10 s11 s12 zs fun x hx => h x (List.mem_cons_of_mem _ hx)
    obtain ⟨hn, hm⟩ := h q List.mem_cons_self
    rw [List.map_cons]
    have e1 := eval_sender (K := K) (C := C) (snd q.1 q.2) (okA_snd hn hm)
    rw [isS_snd hn hm] at e1
    have e2 := eval_bent (K := K) (C := C) hn hm
    have e3 := eval_none (K := K) (C := C) (bentL q.1 q.2) (by simp [bentL]) (bent_none hn hm)
    generalize SX.S (snd q.1 q.2) = x at *
    generalize bentL q.1 q.2 = bl at *
    have tg : gNm 7 (.str x) [s0, s1, s2, s3, s4, s5, s6, .none, s8, s9, s10, s11, s12] = some [s0, s1, s2, s3, s4, s5, s6, .dat (.str x), s8, s9, s10, s11, s12] := by simp [gNm]
    have wp : wipeE [7] [s0, s1, s2, s3, s4, s5, s6, .dat (.str x), s8, s9, s10, s11, s12] = some [s0, s1, s2, s3, s4, s5, s6, .none, s8, s9, s10, s11, s12] := by simp [wipeE, wipeL, nonOwn]
    have c1 : mCall 1 f_is_sender [.brw 7] [s0, s1, s2, s3, s4, s5, s6, .dat (.str x), s8, s9, s10, s11, s12] = some (.dat (.bl true), [s0, s1, s2, s3, s4, s5, s6, .dat (.str x), s8, s9, s10, s11, s12]) := by
      simp [mCall, evAs, evA, got, takeA, nonOwn, e1, putA]
    have c2 : mCall 1 f_law_bent [.brw 7] [s0, s1, s2, s3, s4, s5, s6, .dat (.str x), s8, s9, s10, s11, s12] = some (.lst bl, [s0, s1, s2, s3, s4, s5, s6, .dat (.str x), s8, s9, s10, s11, s12]) := by
      simp [mCall, evAs, evA, got, takeA, nonOwn, e2, putA]
    have c3 : mCall 1 f_law_none [.ex (mCall 1 f_law_bent [.brw 7])] [s0, s1, s2, s3, s4, s5, s6, .dat (.str x), s8, s9, s10, s11, s12] = some (.dat (.bl true), [s0, s1, s2, s3, s4, s5, s6, .dat (.str x), s8, s9, s10, s11, s12]) := by
      have ea : evAs [.ex (mCall 1 f_law_bent [.brw 7])] [s0, s1, s2, s3, s4, s5, s6, .dat (.str x), s8, s9, s10, s11, s12] = some ([.val (.lst bl)], [s0, s1, s2, s3, s4, s5, s6, .dat (.str x), s8, s9, s10, s11, s12]) := by
        simp only [evAs, evA, c2, Option.map_some]
      exact call_eq ea rfl rfl e3
    have t1 : m2 pIsNot (.ex (mCall 1 f_is_sender [.brw 7])) (.ex (mC (.bl true))) [s0, s1, s2, s3, s4, s5, s6, .dat (.str x), s8, s9, s10, s11, s12] = some (.dat (.bl false), [s0, s1, s2, s3, s4, s5, s6, .dat (.str x), s8, s9, s10, s11, s12]) := m2_ex c1 rfl (by simp only [pIsNot, pIsG, decide_true, Bool.not_true, db])
    have tc : mOrT (toT (m2 pIsNot (.ex (mCall 1 f_is_sender [.brw 7])) (.ex (mC (.bl true))))) (mNotT (mT (.ex (mCall 1 f_law_none [.ex (mCall 1 f_law_bent [.brw 7])])))) [s0, s1, s2, s3, s4, s5, s6, .dat (.str x), s8, s9, s10, s11, s12] = some (false, [s0, s1, s2, s3, s4, s5, s6, .dat (.str x), s8, s9, s10, s11, s12]) := by
      simp only [mOrT, toT_eq t1, mNotT, mT, evA, c3, Option.map_some, peek, truth, Sl.view, Bool.not_true]
    unfold compL
    rw [tg]
    simp only [tc, wp]
    exact ih
theorem lw_14 (s0 s1 s2 s3 s4 a5 s6 s8 s9 s10 s11 s12 : Sl (gam K C)) (x : Str) (zs : List (List Nat × List Nat)) (hz : ∀ q ∈ zs, Nm q.1 ∧ Nm q.2) (hl : zs.length ≤ 1000) (h5 : isL a5 (zs.map fun q => G.D.str (SX.S (snd q.1 q.2)))) :
    (mIfS (toT (m2 pNe (.ex (mLc (iSeq (mVar 5)) [7] (gNm 7) (mOrT (toT (m2 pIsNot (.ex (mCall 1 f_is_sender [.brw 7])) (.ex (mC (.bl true))))) (mNotT (mT (.ex (mCall 1 f_law_none [.ex (mCall 1 f_law_bent [.brw 7])]))))) lb_law_0)) (.ex (mN pLstN [])))) (mRet (mC (.bl false))) (mNx)) ([s0, s1, s2, s3, s4, a5, s6, .dat (.str x), s8, s9, s10, s11, s12] : Env (gam K C)) = some (.nx, [s0, s1, s2, s3, s4, .dat (.lst (zs.map fun q => G.D.str (SX.S (snd q.1 q.2)))), s6, .dat (.str x), s8, s9, s10, s11, s12]) := by
  have c := comp_l (K := K) (C := C) s0 s1 s2 s3 s4 (.dat (.lst (zs.map fun q => G.D.str (SX.S (snd q.1 q.2))))) s6 s8 s9 s10 s11 s12 zs hz
  have lm : (zs.map fun q => G.D.str (SX.S (snd q.1 q.2))).length ≤ sizeLine := by rw [List.length_map]; exact Nat.le_trans hl (by decide)
  have z0 : (0 : Nat) ≤ sizeLine := Nat.zero_le _
  generalize (zs.map fun q => G.D.str (SX.S (snd q.1 q.2))) = zl at *
  have it : iSeq (mVar 5) ([s0, s1, s2, s3, s4, a5, s6, .dat (.str x), s8, s9, s10, s11, s12] : Env (gam K C)) = some (zl, [s0, s1, s2, s3, s4, .dat (.lst zl), s6, .dat (.str x), s8, s9, s10, s11, s12]) := by
    rcases h5 with rfl | rfl <;> simp [iSeq, mVar]
  have wp : wipeE [7] ([s0, s1, s2, s3, s4, .dat (.lst zl), s6, .dat (.str x), s8, s9, s10, s11, s12] : Env (gam K C)) = some [s0, s1, s2, s3, s4, .dat (.lst zl), s6, .none, s8, s9, s10, s11, s12] := by simp [wipeE, wipeL, nonOwn]
  have lc : mLc (iSeq (mVar 5)) [7] (gNm 7) (mOrT (toT (m2 pIsNot (.ex (mCall 1 f_is_sender [.brw 7])) (.ex (mC (.bl true))))) (mNotT (mT (.ex (mCall 1 f_law_none [.ex (mCall 1 f_law_bent [.brw 7])]))))) lb_law_0 ([s0, s1, s2, s3, s4, a5, s6, .dat (.str x), s8, s9, s10, s11, s12] : Env (gam K C)) = some (.lst [], [s0, s1, s2, s3, s4, .dat (.lst zl), s6, .dat (.str x), s8, s9, s10, s11, s12]) := by
    unfold mLc
    rw [it]
    simp only [wp, c, if_pos lm]
    rfl
  have e0 : mN pLstN [] ([s0, s1, s2, s3, s4, .dat (.lst zl), s6, .dat (.str x), s8, s9, s10, s11, s12] : Env (gam K C)) = some (.lst [], [s0, s1, s2, s3, s4, .dat (.lst zl), s6, .dat (.str x), s8, s9, s10, s11, s12]) := by
    simp only [mN, evAs, peeks, pLstN, allDat, List.length_nil, z0, if_true, Option.map_some]
  have t1 := m2_ex lc e0 (u := .dat (.bl false)) (p := pNe) (by simp only [pNe, pEqG, Sl.view, show okD (.lst []) = true from okD_ints [], show eqD (.lst []) (.lst []) = true from eqD_ints [], Bool.and_self, if_true, db, Bool.not_true])
  exact (ifs_f (toT_eq t1)).trans rfl
def Sh (ns : List Int) (e : Env (gam K C)) : Prop := ∃ s1 s2 s3 s4 s5 s6 s7 s8 s9 s10 s11 s12 : Sl (gam K C), e = [.scr ns, s1, s2, s3, s4, s5, s6, s7, s8, s9, s10, s11, s12]
theorem step_law (ns : List Int) (k : Nat) (s2 s3 s4 s5 s6 s7 s8 s9 s10 s11 s12 : Sl (gam K C)) : ∃ e, lb_law_1 [.scr ns, .dat (.int k), s2, s3, s4, s5, s6, s7, s8, s9, s10, s11, s12] = some (.nx, e) ∧ Sh ns e := by
  obtain ⟨i, j, e0⟩ := eval_bag (K := K) (C := C) ns k
  obtain ⟨xs, i1, j1, xl, xn, xd, e1⟩ := eval_names (K := K) (C := C) i j
  obtain ⟨r, i2, j2, r0, r1, e2⟩ := eval_take (K := K) (C := C) i1 j1 2 (by decide) (by decide)
  obtain ⟨q, i3, j3, q0, q1, e3⟩ := eval_take (K := K) (C := C) i2 j2 2 (by decide) (by decide)
  obtain ⟨p, i4, j4, p0, p1, e4⟩ := eval_take (K := K) (C := C) i3 j3 25 (by decide) (by decide)
  obtain ⟨x0, x1, x2, x3, x4, rfl⟩ : ∃ x0 x1 x2 x3 x4, xs = [x0, x1, x2, x3, x4] := by
    match xs, xl with
    | [x0, x1, x2, x3, x4], _ => exact ⟨x0, x1, x2, x3, x4, rfl⟩
  have n0 := xn x0 (by simp)
  have n1 := xn x1 (by simp)
  have n2 := xn x2 (by simp)
  have d01 : x0 ≠ x1 := fun z => by rw [z] at xd; simp at xd
  have d12 : x1 ≠ x2 := fun z => by rw [z] at xd; simp at xd
  obtain ⟨o0, ho0⟩ : ∃ o0 : List (List Nat), o0 = ([x0, x1, x2, x3, x4] : List (List Nat)).take (1 + r).toNat := ⟨_, rfl⟩
  have c2 : cutD (([x0, x1, x2, x3, x4] : List (List Nat)).map fun x => G.D.str (SX.S x)) none (some (1 + r)) = (o0.map SX.S).map G.D.str := by
    have e : (1 + r : Int) = (((1 + r).toNat : Nat) : Int) := by omega
    rw [e, cut_take, ho0, List.map_map, ← List.map_take]
    rfl
  have o0n : o0 ≠ [] := by
    rw [ho0]
    have : (1 + r).toNat = (r.toNat) + 1 := by omega
    rw [this]
    simp
  have o0m : ∀ y ∈ o0, Nm y := fun y hy => xn y (List.mem_of_mem_take (ho0 ▸ hy))
  have o0l : o0.length ≤ 5 := by rw [ho0, List.length_take]; simp; omega
  -- the order
  have horder : ∃ (ord : List Str), ord ≠ [] ∧ okSs ord ∧ ord.length ≤ 5 ∧ ∀ (s3 s5 s6 s7 s8 s9 s10 s11 s12 : Sl (gam K C)), (mIfS (toT (m2 pEq (.ex (mCall 2 f_law_take [.brw 2, .ex (mC (.int 2))])) (.ex (mC (.int 1))))) (mSet 4 (m1 pRev (.brw 4))) (mNx)) ([.scr ns, .dat (.int k), bag i2 j2, s3, .lst ((o0.map SX.S).map G.D.str), s5, s6, s7, s8, s9, s10, s11, s12] : Env (gam K C)) = some (.nx, [.scr ns, .dat (.int k), bag i3 j3, s3, .lst (ord.map G.D.str), s5, s6, s7, s8, s9, s10, s11, s12]) := by
    have ok0 : okSs (o0.map SX.S) := fun y hy => by
      obtain ⟨a, ha, rfl⟩ := List.mem_map.mp hy
      exact ok_str fun c hc => by have := (o0m a ha).let_ c hc; omega
    by_cases hq : q = 1
    · refine ⟨(o0.map SX.S).reverse, by simpa using o0n, fun y hy => ok0 y (List.mem_reverse.mp hy), by simpa using o0l, fun s3 s5 s6 s7 s8 s9 s10 s11 s12 => ?_⟩
      rw [List.map_reverse]
      exact lw_3t ns k i2 j2 i3 j3 q hq _ e3 s3 s5 s6 s7 s8 s9 s10 s11 s12
    · exact ⟨o0.map SX.S, by simpa using o0n, ok0, by simpa using o0l, fun s3 s5 s6 s7 s8 s9 s10 s11 s12 => lw_3f ns k i2 j2 i3 j3 q hq _ e3 s3 s5 s6 s7 s8 s9 s10 s11 s12⟩
  obtain ⟨ord, on, oo, ol, e3'⟩ := horder
  -- the senders
  obtain ⟨ss, hss⟩ : ∃ ss : List Str, ss = ([snd x0 x1, snd x0 x2, snd x1 x1, snd x1 x2] : List (List Nat)).map SX.S := ⟨_, rfl⟩
  have ssl : ss.length = 4 := by rw [hss]; rfl
  have sso : okSs ss := fun y hy => by
    rw [hss] at hy
    obtain ⟨a, ha, rfl⟩ := List.mem_map.mp hy
    simp at ha
    rcases ha with rfl | rfl | rfl | rfl
    · exact ok_str (okA_snd n0 n1).1
    · exact ok_str (okA_snd n0 n2).1
    · exact ok_str (okA_snd n1 n1).1
    · exact ok_str (okA_snd n1 n2).1
  have ssd : ss.Nodup := by
    rw [hss]
    have inj : ∀ a b c d : List Nat, Nm a → Nm c → SX.S (snd a b) = SX.S (snd c d) → a = c ∧ b = d := fun a b c d ha hc e => snd_inj ha.no32 hc.no32 (SX.S_inj e)
    simp only [List.map_cons, List.map_nil, List.nodup_cons, List.mem_cons, List.not_mem_nil, or_false, not_or]
    refine ⟨⟨fun z => ?_, fun z => ?_, fun z => ?_⟩, ⟨fun z => ?_, fun z => ?_⟩, fun z => ?_, fun z => z, List.nodup_nil⟩
    · exact d12 (inj _ _ _ _ n0 n0 z).2
    · exact d01 (inj _ _ _ _ n0 n1 z).1
    · exact d01 (inj _ _ _ _ n0 n1 z).1
    · exact d01 (inj _ _ _ _ n0 n1 z).1
    · exact d01 (inj _ _ _ _ n0 n1 z).1
    · exact d12 (inj _ _ _ _ n1 n1 z).2
  have ssn : ss ≠ [] := fun z => by rw [z] at ssl; cases ssl
  have sse : (.lst (([snd x0 x1, snd x0 x2, snd x1 x1, snd x1 x2] : List (List Nat)).map fun x => G.D.str (SX.S x)) : Sl (gam K C)) = .lst (ss.map G.D.str) := by rw [hss, List.map_map]; rfl
  have t : Tc ⟨ord, [], []⟩ [] ss := .start ord ss oo sso ssd (by omega) (by omega)
  obtain ⟨pn, rfl⟩ : ∃ pn : Nat, p = pn := ⟨p.toNat, by omega⟩
  obtain ⟨row, i5, j5, b8, rr, rl, e5⟩ := lw_5 (K := K) (C := C) ns k i3 j3 i4 j4 pn (by omega) e4 ord ss on ssn (by omega) (by omega) (.lst (([x0, x1, x2, x3, x4] : List (List Nat)).map fun x => G.D.str (SX.S x))) (.dat (.str (SX.S x1))) s8 s9 s10 s11 s12
  obtain ⟨o1, b4, b5, k1, k2, k3, k4, e9⟩ := lw_9 (K := K) (C := C) ns k ord ss row t rr rl (bag i5 j5) (.lst (([x0, x1, x2, x3, x4] : List (List Nat)).map fun x => G.D.str (SX.S x))) (.dat (.str (SX.S x1))) b8 (.lst (ord.map G.D.str).reverse) s12
  obtain ⟨o2, c4, c5, m1', m2', m3, m4, e10⟩ := lw_10 (K := K) (C := C) ns k ord ss row t rr rl b4 b5 k3 k4 (bag i5 j5) (.lst (([x0, x1, x2, x3, x4] : List (List Nat)).map fun x => G.D.str (SX.S x))) (.dat (.str (SX.S x1))) b8 (.lst (ord.map G.D.str).reverse) (.obj (false, o1)) s12
  have l1 : o1.giv.length ≤ row.length := k2.inv.len true
  have l2 : o1.stm.length ≤ row.length := k2.inv.len false
  have l64 : o1.giv.length + o1.stm.length < 64 := by omega
  have ldd : ((sortS (dd (o1.giv.map (·.1) ++ o1.stm.map (·.1)))).map G.D.str).length < sizeLine := by
    have h1 := (sortBy_perm sLt (dd (o1.giv.map (·.1) ++ o1.stm.map (·.1)))).length_eq
    have h2 : ∀ l : List Str, (dd l).length ≤ l.length := fun l => by
      induction l with
      | nil => exact Nat.le_refl _
      | cons a l ih => unfold dd; split; (rw [List.length_cons]; omega); (rw [List.length_cons, List.length_cons]; omega)
    have h3 := h2 (o1.giv.map (·.1) ++ o1.stm.map (·.1))
    rw [List.length_append, List.length_map, List.length_map] at h3
    rw [List.length_map]
    have h4 : 64 < sizeLine := by decide
    show (sortBy sLt (dd (o1.giv.map (·.1) ++ o1.stm.map (·.1)))).length < sizeLine
    omega
  obtain ⟨f4, f5, g4, g5, e13⟩ := lw_13 (K := K) (C := C) ns k ord ss row o1 o2 k1 m1' k2 m2' c4 c5 m3 m4 (bag i5 j5) (.lst (([x0, x1, x2, x3, x4] : List (List Nat)).map fun x => G.D.str (SX.S x))) (.dat (.str (SX.S x1))) b8 (.lst (ord.map G.D.str).reverse) (.lst (((sortS (dd (o1.giv.map (·.1) ++ o1.stm.map (·.1)))).map G.D.str) ++ [.str "zz"]))
  have g5' : isL f5 (([(x0, x1), (x0, x2), (x1, x1), (x1, x2)] : List (List Nat × List Nat)).map fun q => G.D.str (SX.S (snd q.1 q.2))) := by
    have : (ss.map G.D.str) = (([(x0, x1), (x0, x2), (x1, x1), (x1, x2)] : List (List Nat × List Nat)).map fun q => G.D.str (SX.S (snd q.1 q.2))) := by rw [hss]; rfl
    rw [← this]
    exact g5
  have e4' := lw_4 (K := K) (C := C) ns k x0 x1 x2 x3 x4 n0.l8 n1.l8 n2.l8 (bag i3 j3) (.lst (ord.map G.D.str)) (.lst []) s7 s8 s9 s10 s11 s12
  rw [sse] at e4'
  refine ⟨?e, ?h1, ?h2⟩
  case h1 =>
    unfold lb_law_1
    refine (seq_nx (lw_0 ns k i j e0 ..)).trans ?_
    refine (seq_nx (lw_1 ns k i j i1 j1 _ e1 ..)).trans ?_
    refine (seq_nx (lw_2 ns k i1 j1 i2 j2 r _ _ e2 c2 ..)).trans ?_
    refine (seq_nx (e3' ..)).trans ?_
    refine (seq_nx e4').trans ?_
    refine (seq_nx e5).trans ?_
    refine (seq_nx (lw_6 ns k _ ..)).trans ?_
    refine (seq_nx (lw_7 ns k ord ..)).trans ?_
    refine (seq_nx (lw_8 ns k _ ..)).trans ?_
    refine (seq_nx e9).trans ?_
    refine (seq_nx e10).trans ?_
    refine (seq_nx (lw_11 ns k o1 l64 ..)).trans ?_
    refine (seq_nx (lw_12 ns k _ ldd ..)).trans ?_
    refine (seq_nx e13).trans ?_
    exact lw_14 _ _ _ _ _ f5 _ _ _ _ _ _ _ [(x0, x1), (x0, x2), (x1, x1), (x1, x2)] (fun q hq => by
      simp at hq
      rcases hq with rfl | rfl | rfl | rfl
      · exact ⟨n0, n1⟩
      · exact ⟨n0, n2⟩
      · exact ⟨n1, n1⟩
      · exact ⟨n1, n2⟩) (by simp) g5'
  case h2 => exact ⟨_, _, _, _, _, _, _, _, _, _, _, _, rfl⟩
theorem str_no (z : Str) (a : List Nat) (e : z = SX.S a) (h : (a.all fun c => decide (c < 1114112)) = true) (l : a.length ≤ 1000) (n : isS a = false) : f_is_sender (K := K) (C := C) [.dat (.str z)] = some (.dat (.bl false), [.dat (.str z)]) := by
  subst e
  rw [← n]
  exact eval_sender a ⟨fun c hc => of_decide_eq_true (List.all_eq_true.mp h c hc), l⟩
theorem str_yes (z : Str) (a : List Nat) (e : z = SX.S a) (h : (a.all fun c => decide (c < 1114112)) = true) (l : a.length ≤ 1000) (n : isS a = true) : f_is_sender (K := K) (C := C) [.dat (.str z)] = some (.dat (.bl true), [.dat (.str z)]) := by
  subst e
  rw [← n]
  exact eval_sender a ⟨fun c hc => of_decide_eq_true (List.all_eq_true.mp h c hc), l⟩
theorem law_true : ∀ (K : PySem.W.Frag) (C : Addr) (ns : List Int), ns.length ≤ 63 → ∃ args', f_law (K := K) (C := C) [.scr ns] = some (.dat (.bl true), args') := by
  intro K C ns hl
  have r0 : ∃ n : Nat, iRng (mN (pN2 pMax2) [.ex (mC (.int 1)), .ex (mN (pN2 pMin2) [.ex (mC (.int 3)), .ex (mN (pN1 pLen) [.brw 0])])]) ([.scr ns, .none, .none, .none, .none, .none, .none, .none, .none, .none, .none, .none, .none] : Env (gam K C)) = some ((List.range n).map fun (k : Nat) => G.D.int (k : Int), [.scr ns, .none, .none, .none, .none, .none, .none, .none, .none, .none, .none, .none, .none]) := by
    refine ⟨(if (if (ns.length : Int) < 3 then (ns.length : Int) else 3) > 1 then (if (ns.length : Int) < 3 then (ns.length : Int) else 3) else 1).toNat, ?_⟩
    have e : (mN (pN2 pMax2) [.ex (mC (.int 1)), .ex (mN (pN2 pMin2) [.ex (mC (.int 3)), .ex (mN (pN1 pLen) [.brw 0])])]) ([.scr ns, .none, .none, .none, .none, .none, .none, .none, .none, .none, .none, .none, .none] : Env (gam K C)) = some (.dat (.int (if (if (ns.length : Int) < 3 then (ns.length : Int) else 3) > 1 then (if (ns.length : Int) < 3 then (ns.length : Int) else 3) else 1)), [.scr ns, .none, .none, .none, .none, .none, .none, .none, .none, .none, .none, .none, .none]) := by
      simp [mN, evAs, evA, peeks, peek, mC, got, pN1, pLen, Sl.view, di, pN2, pMin2, pMax2, p0]
    have hn : (if (if (ns.length : Int) < 3 then (ns.length : Int) else 3) > 1 then (if (ns.length : Int) < 3 then (ns.length : Int) else 3) else 1) < 2 ^ 62 ∧ -(2 ^ 62) ≤ (if (if (ns.length : Int) < 3 then (ns.length : Int) else 3) > 1 then (if (ns.length : Int) < 3 then (ns.length : Int) else 3) else 1) := by
      split <;> split <;> omega
    unfold iRng
    rw [e]
    simp only
    rw [if_pos hn]
  obtain ⟨n, r0⟩ := r0
  obtain ⟨e, lp, _, s1, s2, s3, s4, s5, s6, s7, s8, s9, s10, s11, s12, rfl⟩ := forL_run (t := gNm 1) (g := lb_law_1) (fun ds env => (∀ d ∈ ds, ∃ k : Nat, d = .int (k : Int)) ∧ Sh (K := K) (C := C) ns env) (fun d ds env h => by
    obtain ⟨hd, s1, s2, s3, s4, s5, s6, s7, s8, s9, s10, s11, s12, rfl⟩ := h
    obtain ⟨k, rfl⟩ := hd d List.mem_cons_self
    obtain ⟨e, h1, h2⟩ := step_law (K := K) (C := C) ns k s2 s3 s4 s5 s6 s7 s8 s9 s10 s11 s12
    exact ⟨_, e, by simp [gNm], h1, fun d' hd' => hd d' (List.mem_cons_of_mem _ hd'), h2⟩) ((List.range n).map fun (k : Nat) => G.D.int (k : Int)) ([.scr ns, .none, .none, .none, .none, .none, .none, .none, .none, .none, .none, .none, .none] : Env (gam K C)) ⟨fun d hd => by
      obtain ⟨k, _, rfl⟩ := List.mem_map.mp hd
      exact ⟨k, rfl⟩, ⟨_, _, _, _, _, _, _, _, _, _, _, _, rfl⟩⟩
  unfold f_law
  rw [bb_law]
  have h8 : (8 : Nat) ≤ sizeLine := by decide
  have y1 := str_yes (K := K) (C := C) "at at at" [97, 116, 32, 97, 116, 32, 97, 116] (by decide +kernel) (by decide) (by decide) (by decide +kernel)
  have y2 := str_yes (K := K) (C := C) "abcdefgh at abcdefgh" [97, 98, 99, 100, 101, 102, 103, 104, 32, 97, 116, 32, 97, 98, 99, 100, 101, 102, 103, 104] (by decide +kernel) (by decide) (by decide) (by decide +kernel)
  have no := eval_none (K := K) (C := C) [.str "", .str "at", .str " at ", .str "a at ", .str "abcdefghi at b", .non, .int 5, .bl true] (by decide) (fun d hd => by
    simp only [List.mem_cons, List.not_mem_nil, or_false] at hd
    rcases hd with rfl | rfl | rfl | rfl | rfl | rfl | rfl | rfl
    · exact str_no _ [] (by decide +kernel) (by decide) (by decide) (by decide +kernel)
    · exact str_no _ [97, 116] (by decide +kernel) (by decide) (by decide) (by decide +kernel)
    · exact str_no _ [32, 97, 116, 32] (by decide +kernel) (by decide) (by decide) (by decide +kernel)
    · exact str_no _ [97, 32, 97, 116, 32] (by decide +kernel) (by decide) (by decide) (by decide +kernel)
    · exact str_no _ [97, 98, 99, 100, 101, 102, 103, 104, 105, 32, 97, 116, 32, 98] (by decide +kernel) (by decide) (by decide) (by decide +kernel)
    · exact eval_sender_no _ (by simp [isT])
    · exact eval_sender_no _ (by simp [isT])
    · exact eval_sender_no _ (by simp [isT]))
  refine ⟨_, fun_rt (e' := [.scr ns, s1, s2, s3, s4, s5, s6, s7, s8, s9, s10, s11, s12]) rfl rfl ?_⟩
  refine (seq_nx (for_eq r0 lp)).trans ?_
  have cs : ∀ z : Str, f_is_sender (K := K) (C := C) [.dat (.str z)] = some (.dat (.bl true), [.dat (.str z)]) → toT (m2 pIsNot (.ex (mCall 1 f_is_sender [.ex (mC (.str z))])) (.ex (mC (.bl true)))) ([.scr ns, s1, s2, s3, s4, s5, s6, s7, s8, s9, s10, s11, s12] : Env (gam K C)) = some (false, [.scr ns, s1, s2, s3, s4, s5, s6, s7, s8, s9, s10, s11, s12]) := fun z hz => by
    have c1 : mCall 1 f_is_sender [.ex (mC (.str z))] ([.scr ns, s1, s2, s3, s4, s5, s6, s7, s8, s9, s10, s11, s12] : Env (gam K C)) = some (.dat (.bl true), [.scr ns, s1, s2, s3, s4, s5, s6, s7, s8, s9, s10, s11, s12]) := call_eq (xs := [.val (.dat (.str z))]) rfl rfl rfl hz
    exact toT_eq (m2_ex c1 rfl (by simp only [pIsNot, pIsG, decide_true, Bool.not_true, db]))
  have c1 := cs _ y1
  have c2 := cs _ y2
  refine (seq_nx (ifs_f (e1 := [.scr ns, s1, s2, s3, s4, s5, s6, s7, s8, s9, s10, s11, s12]) ?_)).trans (ret_eq ?_)
  · simp only [mOrT, c1, c2]
  · have ea : evAs [.ex (mN pLstN [.ex (mC (.str "")), .ex (mC (.str "at")), .ex (mC (.str " at ")), .ex (mC (.str "a at ")), .ex (mC (.str "abcdefghi at b")), .ex (mC .non), .ex (mC (.int 5)), .ex (mC (.bl true))])] ([.scr ns, s1, s2, s3, s4, s5, s6, s7, s8, s9, s10, s11, s12] : Env (gam K C)) = some ([.val (.lst [.str "", .str "at", .str " at ", .str "a at ", .str "abcdefghi at b", .non, .int 5, .bl true])], [.scr ns, s1, s2, s3, s4, s5, s6, s7, s8, s9, s10, s11, s12]) := by
      simp only [evAs, evA, mN, mC, Option.map_some, peeks, peek, pLstN, allDat, List.length_cons, List.length_nil, Nat.zero_add, Nat.reduceAdd, h8, if_true]
    exact call_eq ea rfl rfl no
end
end K

/-! the end of k21, by mkE21.py -/
namespace K
open PySem L2 G S
def LawTrue : Prop := ∀ (K : PySem.W.Frag) (C : Addr) (ns : List Int), ns.length ≤ 63 → ∃ args', f_law (K := K) (C := C) [.scr ns] = some (.dat (.bl true), args')
/-- a list of at most 63 ints comes in, True comes out -/
def spLaw (K : PySem.W.Frag) : Sp := fun vs H Q _ => ∃ (a : Addr) (ns : List Int), vs = [.ref a] ∧ SqL K H a (ns.map V.int) ∧ ns.length ≤ 63 ∧ ∀ H', Q (.bl true) H'
theorem spLaw_sp (hL : LawTrue) {K : PySem.W.Frag} {C : Addr} {vs : List V} {H : Hp} {Q : VK} {E : XK} (h : spLaw K vs H Q E) : spG (gam K C) 1 f_law vs H Q E := by
  obtain ⟨a, ns, rfl, hS, hl, k⟩ := h
  obtain ⟨args', e⟩ := hL K C ns hl
  refine ⟨[.scr ns], .dat (.bl true), args', ⟨fun _ => False, fun _ _ => False, H⟩, e, rfl, rfl, ⟨rfl, fun i s hi => ?_, fun _ _ z => z, fun _ _ _ z => z.elim, fun _ z => z.elim, fun _ _ _ z => z⟩, fun v w' Fr E' T' p' f' => ?_⟩
  · match i, hi with
    | 0, hi =>
      cases hi
      refine .inr ⟨.ref a, rfl, ⟨a, rfl, ?_⟩, fun _ z => z⟩
      rcases hS with z | z
      · exact .inl ⟨fun q => q, z⟩
      · exact .inr fun H' => .inr z
    | n + 1, hi => cases hi
  · cases T'.bl
    exact k _
theorem all_mk (hL : LawTrue) {l : PySem.W.OpenLaw} {w : World} {K : PySem.W.Frag} {h : Heap} {mg : Str → Option Value} {fa C : Addr} (X : K.In h) (G : h.Ns mainGlobals mg) (hfa : mg "law" = some (.ref fa))
    {ginit : Addr} {odinit aninit : Option Addr} {slinit : Array (Option Value)} {ocinit kVinit dcinit pminit cdinit ctinit : Value}
    {ggive : Addr} {odgive angive : Option Addr} {slgive : Array (Option Value)} {ocgive dcgive pmgive cdgive ctgive : Value} {kDgive : Addr}
    {gstandings_of : Addr} {odstandings_of anstandings_of : Option Addr} {slstandings_of : Array (Option Value)} {ocstandings_of kVstandings_of dcstandings_of pmstandings_of cdstandings_of ctstandings_of : Value}
    {gby_hand : Addr} {odby_hand anby_hand : Option Addr} {slby_hand : Array (Option Value)} {ocby_hand kVby_hand dcby_hand pmby_hand cdby_hand ctby_hand : Value}
    {gnames : Addr} {odnames annames : Option Addr} {slnames : Array (Option Value)} {ocnames kVnames dcnames pmnames cdnames ctnames : Value}
    {gcontains : Addr} {odcontains ancontains : Option Addr} {slcontains : Array (Option Value)} {occontains kVcontains dccontains pmcontains cdcontains ctcontains : Value}
    {glen : Addr} {odlen anlen : Option Addr} {sllen : Array (Option Value)} {oclen kVlen dclen pmlen cdlen ctlen : Value}
    {gis_name : Addr} {odis_name anis_name : Option Addr} {slis_name : Array (Option Value)} {ocis_name kVis_name dcis_name pmis_name cdis_name ctis_name : Value}
    {gis_sender : Addr} {odis_sender anis_sender : Option Addr} {slis_sender : Array (Option Value)} {ocis_sender kVis_sender dcis_sender pmis_sender cdis_sender ctis_sender : Value}
    {glaw_bag : Addr} {odlaw_bag anlaw_bag : Option Addr} {sllaw_bag : Array (Option Value)} {oclaw_bag kVlaw_bag dclaw_bag pmlaw_bag cdlaw_bag ctlaw_bag : Value}
    {glaw_take : Addr} {odlaw_take anlaw_take : Option Addr} {sllaw_take : Array (Option Value)} {oclaw_take kVlaw_take dclaw_take pmlaw_take cdlaw_take ctlaw_take : Value}
    {glaw_of : Addr} {odlaw_of anlaw_of : Option Addr} {sllaw_of : Array (Option Value)} {oclaw_of kVlaw_of dclaw_of pmlaw_of cdlaw_of ctlaw_of : Value}
    {glaw_names : Addr} {odlaw_names anlaw_names : Option Addr} {sllaw_names : Array (Option Value)} {oclaw_names kVlaw_names dclaw_names pmlaw_names cdlaw_names ctlaw_names : Value}
    {glaw_told : Addr} {odlaw_told anlaw_told : Option Addr} {sllaw_told : Array (Option Value)} {oclaw_told kVlaw_told dclaw_told pmlaw_told cdlaw_told ctlaw_told : Value}
    {glaw_given : Addr} {odlaw_given anlaw_given : Option Addr} {sllaw_given : Array (Option Value)} {oclaw_given kVlaw_given dclaw_given pmlaw_given cdlaw_given ctlaw_given : Value}
    {glaw_bool : Addr} {odlaw_bool anlaw_bool : Option Addr} {sllaw_bool : Array (Option Value)} {oclaw_bool kVlaw_bool dclaw_bool pmlaw_bool cdlaw_bool ctlaw_bool : Value}
    {glaw_bent : Addr} {odlaw_bent anlaw_bent : Option Addr} {sllaw_bent : Array (Option Value)} {oclaw_bent kVlaw_bent dclaw_bent pmlaw_bent cdlaw_bent ctlaw_bent : Value}
    {glaw_none : Addr} {odlaw_none anlaw_none : Option Addr} {sllaw_none : Array (Option Value)} {oclaw_none kVlaw_none dclaw_none pmlaw_none cdlaw_none ctlaw_none : Value}
    {glaw_filled : Addr} {odlaw_filled anlaw_filled : Option Addr} {sllaw_filled : Array (Option Value)} {oclaw_filled kVlaw_filled dclaw_filled pmlaw_filled cdlaw_filled ctlaw_filled : Value}
    {glaw : Addr} {odlaw anlaw : Option Addr} {sllaw : Array (Option Value)} {oclaw kVlaw dclaw pmlaw cdlaw ctlaw : Value}
    {tSG tMS : Tok}
    (aC : PySem.W.nsIn K mainGlobals "Senders" = some (some (.ref C)))
    (ainit : PySem.W.findIn K (.ref C) "__init__" = some (some (.ref ginit)))
    (iinit : PySem.W.isFn K (.ref ginit) = true)
    (linit : K.lookup ginit = some ⟨ocinit, odinit, .func (PySem.W.fnOf "__init__" "Senders.__init__" (defArgs s_SE_init) (defBody s_SE_init) (defScope s_SE_init) .none kVinit dcinit pminit aninit cdinit ctinit), slinit⟩)
    (cinit : PySem.W.codeIn K cdinit "Senders.__init__" = true)
    (kinit : PySem.W.keepIn K (.ref ginit) = true)
    (agive : PySem.W.findIn K (.ref C) "give" = some (some (.ref ggive)))
    (igive : PySem.W.isFn K (.ref ggive) = true)
    (lgive : K.lookup ggive = some ⟨ocgive, odgive, .func (PySem.W.fnOf "give" "Senders.give" (defArgs s_SE_give) (defBody s_SE_give) (defScope s_SE_give) .none (.ref kDgive) dcgive pmgive angive cdgive ctgive), slgive⟩)
    (cgive : PySem.W.codeIn K cdgive "Senders.give" = true)
    (kgive : PySem.W.keepIn K (.ref ggive) = true)
    (astandings_of : PySem.W.findIn K (.ref C) "standings_of" = some (some (.ref gstandings_of)))
    (istandings_of : PySem.W.isFn K (.ref gstandings_of) = true)
    (lstandings_of : K.lookup gstandings_of = some ⟨ocstandings_of, odstandings_of, .func (PySem.W.fnOf "standings_of" "Senders.standings_of" (defArgs s_SE_standings_of) (defBody s_SE_standings_of) (defScope s_SE_standings_of) .none kVstandings_of dcstandings_of pmstandings_of anstandings_of cdstandings_of ctstandings_of), slstandings_of⟩)
    (cstandings_of : PySem.W.codeIn K cdstandings_of "Senders.standings_of" = true)
    (kstandings_of : PySem.W.keepIn K (.ref gstandings_of) = true)
    (aby_hand : PySem.W.findIn K (.ref C) "by_hand" = some (some (.ref gby_hand)))
    (iby_hand : PySem.W.isFn K (.ref gby_hand) = true)
    (lby_hand : K.lookup gby_hand = some ⟨ocby_hand, odby_hand, .func (PySem.W.fnOf "by_hand" "Senders.by_hand" (defArgs s_SE_by_hand) (defBody s_SE_by_hand) (defScope s_SE_by_hand) .none kVby_hand dcby_hand pmby_hand anby_hand cdby_hand ctby_hand), slby_hand⟩)
    (cby_hand : PySem.W.codeIn K cdby_hand "Senders.by_hand" = true)
    (kby_hand : PySem.W.keepIn K (.ref gby_hand) = true)
    (anames : PySem.W.findIn K (.ref C) "names" = some (some (.ref gnames)))
    (inames : PySem.W.isFn K (.ref gnames) = true)
    (lnames : K.lookup gnames = some ⟨ocnames, odnames, .func (PySem.W.fnOf "names" "Senders.names" (defArgs s_SE_names) (defBody s_SE_names) (defScope s_SE_names) .none kVnames dcnames pmnames annames cdnames ctnames), slnames⟩)
    (cnames : PySem.W.codeIn K cdnames "Senders.names" = true)
    (knames : PySem.W.keepIn K (.ref gnames) = true)
    (acontains : PySem.W.findIn K (.ref C) "__contains__" = some (some (.ref gcontains)))
    (icontains : PySem.W.isFn K (.ref gcontains) = true)
    (lcontains : K.lookup gcontains = some ⟨occontains, odcontains, .func (PySem.W.fnOf "__contains__" "Senders.__contains__" (defArgs s_SE_contains) (defBody s_SE_contains) (defScope s_SE_contains) .none kVcontains dccontains pmcontains ancontains cdcontains ctcontains), slcontains⟩)
    (ccontains : PySem.W.codeIn K cdcontains "Senders.__contains__" = true)
    (kcontains : PySem.W.keepIn K (.ref gcontains) = true)
    (alen : PySem.W.findIn K (.ref C) "__len__" = some (some (.ref glen)))
    (ilen : PySem.W.isFn K (.ref glen) = true)
    (llen : K.lookup glen = some ⟨oclen, odlen, .func (PySem.W.fnOf "__len__" "Senders.__len__" (defArgs s_SE_len) (defBody s_SE_len) (defScope s_SE_len) .none kVlen dclen pmlen anlen cdlen ctlen), sllen⟩)
    (clen : PySem.W.codeIn K cdlen "Senders.__len__" = true)
    (klen : PySem.W.keepIn K (.ref glen) = true)
    (kwgive : PySem.W.nsIn K kDgive "by_hand" = some (some (.bool false)))
    (ais_name : PySem.W.nsIn K mainGlobals "is_name" = some (some (.ref gis_name)))
    (lis_name : K.lookup gis_name = some ⟨ocis_name, odis_name, .func (PySem.W.fnOf "is_name" "is_name" (defArgs s_is_name) (defBody s_is_name) (defScope s_is_name) .none kVis_name dcis_name pmis_name anis_name cdis_name ctis_name), slis_name⟩)
    (cis_name : PySem.W.codeIn K cdis_name "is_name" = true)
    (kis_name : PySem.W.keepIn K (.ref gis_name) = true)
    (ais_sender : PySem.W.nsIn K mainGlobals "is_sender" = some (some (.ref gis_sender)))
    (lis_sender : K.lookup gis_sender = some ⟨ocis_sender, odis_sender, .func (PySem.W.fnOf "is_sender" "is_sender" (defArgs s_is_sender) (defBody s_is_sender) (defScope s_is_sender) .none kVis_sender dcis_sender pmis_sender anis_sender cdis_sender ctis_sender), slis_sender⟩)
    (cis_sender : PySem.W.codeIn K cdis_sender "is_sender" = true)
    (kis_sender : PySem.W.keepIn K (.ref gis_sender) = true)
    (alaw_bag : PySem.W.nsIn K mainGlobals "_law_bag" = some (some (.ref glaw_bag)))
    (llaw_bag : K.lookup glaw_bag = some ⟨oclaw_bag, odlaw_bag, .func (PySem.W.fnOf "_law_bag" "_law_bag" (defArgs s_law_bag) (defBody s_law_bag) (defScope s_law_bag) .none kVlaw_bag dclaw_bag pmlaw_bag anlaw_bag cdlaw_bag ctlaw_bag), sllaw_bag⟩)
    (claw_bag : PySem.W.codeIn K cdlaw_bag "_law_bag" = true)
    (klaw_bag : PySem.W.keepIn K (.ref glaw_bag) = true)
    (alaw_take : PySem.W.nsIn K mainGlobals "_law_take" = some (some (.ref glaw_take)))
    (llaw_take : K.lookup glaw_take = some ⟨oclaw_take, odlaw_take, .func (PySem.W.fnOf "_law_take" "_law_take" (defArgs s_law_take) (defBody s_law_take) (defScope s_law_take) .none kVlaw_take dclaw_take pmlaw_take anlaw_take cdlaw_take ctlaw_take), sllaw_take⟩)
    (claw_take : PySem.W.codeIn K cdlaw_take "_law_take" = true)
    (klaw_take : PySem.W.keepIn K (.ref glaw_take) = true)
    (alaw_of : PySem.W.nsIn K mainGlobals "_law_of" = some (some (.ref glaw_of)))
    (llaw_of : K.lookup glaw_of = some ⟨oclaw_of, odlaw_of, .func (PySem.W.fnOf "_law_of" "_law_of" (defArgs s_law_of) (defBody s_law_of) (defScope s_law_of) .none kVlaw_of dclaw_of pmlaw_of anlaw_of cdlaw_of ctlaw_of), sllaw_of⟩)
    (claw_of : PySem.W.codeIn K cdlaw_of "_law_of" = true)
    (klaw_of : PySem.W.keepIn K (.ref glaw_of) = true)
    (alaw_names : PySem.W.nsIn K mainGlobals "_law_names" = some (some (.ref glaw_names)))
    (llaw_names : K.lookup glaw_names = some ⟨oclaw_names, odlaw_names, .func (PySem.W.fnOf "_law_names" "_law_names" (defArgs s_law_names) (defBody s_law_names) (defScope s_law_names) .none kVlaw_names dclaw_names pmlaw_names anlaw_names cdlaw_names ctlaw_names), sllaw_names⟩)
    (claw_names : PySem.W.codeIn K cdlaw_names "_law_names" = true)
    (klaw_names : PySem.W.keepIn K (.ref glaw_names) = true)
    (alaw_told : PySem.W.nsIn K mainGlobals "_law_told" = some (some (.ref glaw_told)))
    (llaw_told : K.lookup glaw_told = some ⟨oclaw_told, odlaw_told, .func (PySem.W.fnOf "_law_told" "_law_told" (defArgs s_law_told) (defBody s_law_told) (defScope s_law_told) .none kVlaw_told dclaw_told pmlaw_told anlaw_told cdlaw_told ctlaw_told), sllaw_told⟩)
    (claw_told : PySem.W.codeIn K cdlaw_told "_law_told" = true)
    (klaw_told : PySem.W.keepIn K (.ref glaw_told) = true)
    (alaw_given : PySem.W.nsIn K mainGlobals "_law_given" = some (some (.ref glaw_given)))
    (llaw_given : K.lookup glaw_given = some ⟨oclaw_given, odlaw_given, .func (PySem.W.fnOf "_law_given" "_law_given" (defArgs s_law_given) (defBody s_law_given) (defScope s_law_given) .none kVlaw_given dclaw_given pmlaw_given anlaw_given cdlaw_given ctlaw_given), sllaw_given⟩)
    (claw_given : PySem.W.codeIn K cdlaw_given "_law_given" = true)
    (klaw_given : PySem.W.keepIn K (.ref glaw_given) = true)
    (alaw_bool : PySem.W.nsIn K mainGlobals "_law_bool" = some (some (.ref glaw_bool)))
    (llaw_bool : K.lookup glaw_bool = some ⟨oclaw_bool, odlaw_bool, .func (PySem.W.fnOf "_law_bool" "_law_bool" (defArgs s_law_bool) (defBody s_law_bool) (defScope s_law_bool) .none kVlaw_bool dclaw_bool pmlaw_bool anlaw_bool cdlaw_bool ctlaw_bool), sllaw_bool⟩)
    (claw_bool : PySem.W.codeIn K cdlaw_bool "_law_bool" = true)
    (klaw_bool : PySem.W.keepIn K (.ref glaw_bool) = true)
    (alaw_bent : PySem.W.nsIn K mainGlobals "_law_bent" = some (some (.ref glaw_bent)))
    (llaw_bent : K.lookup glaw_bent = some ⟨oclaw_bent, odlaw_bent, .func (PySem.W.fnOf "_law_bent" "_law_bent" (defArgs s_law_bent) (defBody s_law_bent) (defScope s_law_bent) .none kVlaw_bent dclaw_bent pmlaw_bent anlaw_bent cdlaw_bent ctlaw_bent), sllaw_bent⟩)
    (claw_bent : PySem.W.codeIn K cdlaw_bent "_law_bent" = true)
    (klaw_bent : PySem.W.keepIn K (.ref glaw_bent) = true)
    (alaw_none : PySem.W.nsIn K mainGlobals "_law_none" = some (some (.ref glaw_none)))
    (llaw_none : K.lookup glaw_none = some ⟨oclaw_none, odlaw_none, .func (PySem.W.fnOf "_law_none" "_law_none" (defArgs s_law_none) (defBody s_law_none) (defScope s_law_none) .none kVlaw_none dclaw_none pmlaw_none anlaw_none cdlaw_none ctlaw_none), sllaw_none⟩)
    (claw_none : PySem.W.codeIn K cdlaw_none "_law_none" = true)
    (klaw_none : PySem.W.keepIn K (.ref glaw_none) = true)
    (alaw_filled : PySem.W.nsIn K mainGlobals "_law_filled" = some (some (.ref glaw_filled)))
    (llaw_filled : K.lookup glaw_filled = some ⟨oclaw_filled, odlaw_filled, .func (PySem.W.fnOf "_law_filled" "_law_filled" (defArgs s_law_filled) (defBody s_law_filled) (defScope s_law_filled) .none kVlaw_filled dclaw_filled pmlaw_filled anlaw_filled cdlaw_filled ctlaw_filled), sllaw_filled⟩)
    (claw_filled : PySem.W.codeIn K cdlaw_filled "_law_filled" = true)
    (klaw_filled : PySem.W.keepIn K (.ref glaw_filled) = true)
    (alaw : PySem.W.nsIn K mainGlobals "law" = some (some (.ref glaw)))
    (llaw : K.lookup glaw = some ⟨oclaw, odlaw, .func (PySem.W.fnOf "law" "law" (defArgs s_law) (defBody s_law) (defScope s_law) .none kVlaw dclaw pmlaw anlaw cdlaw ctlaw), sllaw⟩)
    (claw : PySem.W.codeIn K cdlaw "law" = true)
    (klaw : PySem.W.keepIn K (.ref glaw) = true)
    (gSG : PySem.W.nsIn K mainGlobals "SIGNS" = some (some (.str "abcdefghijklmnopqrstuvwxyz" tSG)))
    (gMS : PySem.W.nsIn K mainGlobals "MOST_SIGNS" = some (some (.int 8 tMS)))
    (pg : PySem.W.plainGet K C Str.empty = true)
    (hd : PySem.W.hasDictIn K C = true)
    (po : PySem.W.plainOver K C = true)
    (sa : PySem.W.findIn K (.ref C) "__setattr__" = some (some (.builtin "object.__setattr__")))
    (mk : PySem.W.makesIn K C = true)
    (kc : PySem.W.keepIn K (.ref C) = true)
    (nO : PySem.W.findIn K (.ref C) "order" = some none)
    (nG : PySem.W.findIn K (.ref C) "given" = some none)
    (nS : PySem.W.findIn K (.ref C) "stamped" = some none)
    (zabs : PySem.W.nsIn K mainGlobals "abs" = some none)
    (zall : PySem.W.nsIn K mainGlobals "all" = some none)
    (zbool : PySem.W.nsIn K mainGlobals "bool" = some none)
    (zenumerate : PySem.W.nsIn K mainGlobals "enumerate" = some none)
    (zint : PySem.W.nsIn K mainGlobals "int" = some none)
    (zisinstance : PySem.W.nsIn K mainGlobals "isinstance" = some none)
    (zlen : PySem.W.nsIn K mainGlobals "len" = some none)
    (zlist : PySem.W.nsIn K mainGlobals "list" = some none)
    (zmax : PySem.W.nsIn K mainGlobals "max" = some none)
    (zmin : PySem.W.nsIn K mainGlobals "min" = some none)
    (zrange : PySem.W.nsIn K mainGlobals "range" = some none)
    (zset : PySem.W.nsIn K mainGlobals "set" = some none)
    (zsorted : PySem.W.nsIn K mainGlobals "sorted" = some none)
    (zstr : PySem.W.nsIn K mainGlobals "str" = some none)
    (ztuple : PySem.W.nsIn K mainGlobals "tuple" = some none) :
    ∃ fd : FuncData, (∀ (s : Shared) (v : Value), BindsTo s fd ⟨[v], []⟩ [("_law_script", v)]) ∧ ∀ base : Heap, K.In base → base.Ns mainGlobals mg → FnOk l.prog w K mg base CX0 6 fa fd ["_law_script"] (spLaw K) := by
  have e := hfa.symm.trans (PySem.W.mg_of X G alaw)
  cases e
  have cl : Cls K C := ⟨pg, hd, po, sa⟩
  have fo : ∀ f, NoAttr K C f → FldOk (gam K C) f := fun f hn c C' ns hc _ => by
    match c, hc with
    | 0, hc => cases hc; exact ⟨cl, hn⟩
  have T : Tx K C mg := ⟨PySem.W.mg_none_of X G zabs, PySem.W.mg_none_of X G zall, PySem.W.mg_none_of X G zbool, PySem.W.mg_none_of X G zenumerate, PySem.W.mg_none_of X G zint, PySem.W.mg_none_of X G zisinstance, PySem.W.mg_none_of X G zlen, PySem.W.mg_none_of X G zlist, PySem.W.mg_none_of X G zmax, PySem.W.mg_none_of X G zmin, PySem.W.mg_none_of X G zrange, PySem.W.mg_none_of X G zset, PySem.W.mg_none_of X G zsorted, PySem.W.mg_none_of X G zstr, PySem.W.mg_none_of X G ztuple, ⟨_, PySem.W.mg_of X G gMS⟩, ⟨_, PySem.W.mg_of X G gSG⟩, ⟨cl, nO, nG, nS⟩, fo _ nO, fo _ nG, fo _ nS⟩
  have Finit := fun_mk (st := s_SE_init) linit cinit kinit
  have Fgive := fun_mk (st := s_SE_give) lgive cgive kgive
  have Fstandings_of := fun_mk (st := s_SE_standings_of) lstandings_of cstandings_of kstandings_of
  have Fby_hand := fun_mk (st := s_SE_by_hand) lby_hand cby_hand kby_hand
  have Fnames := fun_mk (st := s_SE_names) lnames cnames knames
  have Fcontains := fun_mk (st := s_SE_contains) lcontains ccontains kcontains
  have Flen := fun_mk (st := s_SE_len) llen clen klen
  have Fis_name := fun_mk (st := s_is_name) lis_name cis_name kis_name
  have Fis_sender := fun_mk (st := s_is_sender) lis_sender cis_sender kis_sender
  have Flaw_bag := fun_mk (st := s_law_bag) llaw_bag claw_bag klaw_bag
  have Flaw_take := fun_mk (st := s_law_take) llaw_take claw_take klaw_take
  have Flaw_of := fun_mk (st := s_law_of) llaw_of claw_of klaw_of
  have Flaw_names := fun_mk (st := s_law_names) llaw_names claw_names klaw_names
  have Flaw_told := fun_mk (st := s_law_told) llaw_told claw_told klaw_told
  have Flaw_given := fun_mk (st := s_law_given) llaw_given claw_given klaw_given
  have Flaw_bool := fun_mk (st := s_law_bool) llaw_bool claw_bool klaw_bool
  have Flaw_bent := fun_mk (st := s_law_bent) llaw_bent claw_bent klaw_bent
  have Flaw_none := fun_mk (st := s_law_none) llaw_none claw_none klaw_none
  have Flaw_filled := fun_mk (st := s_law_filled) llaw_filled claw_filled klaw_filled
  have Flaw := fun_mk (st := s_law) llaw claw klaw
  have binit := Finit.binds (ps := ["self", "standings"]) fun _ _ _ _ _ _ us hl => match us, hl with | [_, _], _ => rfl
  have bstandings_of := Fstandings_of.binds (ps := ["self", "sender"]) fun _ _ _ _ _ _ us hl => match us, hl with | [_, _], _ => rfl
  have bby_hand := Fby_hand.binds (ps := ["self", "sender"]) fun _ _ _ _ _ _ us hl => match us, hl with | [_, _], _ => rfl
  have bnames := Fnames.binds (ps := ["self"]) fun _ _ _ _ _ _ us hl => match us, hl with | [_], _ => rfl
  have bcontains := Fcontains.binds (ps := ["self", "sender"]) fun _ _ _ _ _ _ us hl => match us, hl with | [_, _], _ => rfl
  have blen := Flen.binds (ps := ["self"]) fun _ _ _ _ _ _ us hl => match us, hl with | [_], _ => rfl
  have bgive : Binds K (PySem.W.fnOf "give" "Senders.give" (defArgs s_SE_give) (defBody s_SE_give) (defScope s_SE_give) .none (.ref kDgive) dcgive pmgive angive cdgive ctgive) ["self", "sender", "standing", "by_hand"] [.bool false] := fun s us X hl => match us, (show us.length = 3 by simpa using hl) with
    | [_, _, _], _ => BindsTo.of_looks fun M => KwChain.looks (l := [("by_hand", .bool false)]) X (fun q hq => by rw [List.mem_singleton.mp hq]; exact kwgive) ⟨_, _, _, _, _, _, rfl, rfl, rfl⟩
  have bis_name := Fis_name.binds (ps := ["value"]) fun _ _ _ _ _ _ us hl => match us, hl with | [_], _ => rfl
  have bis_sender := Fis_sender.binds (ps := ["thing"]) fun _ _ _ _ _ _ us hl => match us, hl with | [_], _ => rfl
  have blaw_bag := Flaw_bag.binds (ps := ["_law_script", "_law_at"]) fun _ _ _ _ _ _ us hl => match us, hl with | [_, _], _ => rfl
  have blaw_take := Flaw_take.binds (ps := ["_law_bag_here", "_law_many"]) fun _ _ _ _ _ _ us hl => match us, hl with | [_, _], _ => rfl
  have blaw_of := Flaw_of.binds (ps := ["_law_bag_here", "_law_some_here"]) fun _ _ _ _ _ _ us hl => match us, hl with | [_, _], _ => rfl
  have blaw_names := Flaw_names.binds (ps := ["_law_bag_here", "_law_many"]) fun _ _ _ _ _ _ us hl => match us, hl with | [_, _], _ => rfl
  have blaw_told := Flaw_told.binds (ps := ["_law_table", "_law_order", "_law_gifts", "_law_senders"]) fun _ _ _ _ _ _ us hl => match us, hl with | [_, _, _, _], _ => rfl
  have blaw_given := Flaw_given.binds (ps := ["_law_table", "_law_gift"]) fun _ _ _ _ _ _ us hl => match us, hl with | [_, _], _ => rfl
  have blaw_bool := Flaw_bool.binds (ps := ["_law_told_here", "_law_due"]) fun _ _ _ _ _ _ us hl => match us, hl with | [_, _], _ => rfl
  have blaw_bent := Flaw_bent.binds (ps := ["_law_one"]) fun _ _ _ _ _ _ us hl => match us, hl with | [_], _ => rfl
  have blaw_none := Flaw_none.binds (ps := ["_law_things"]) fun _ _ _ _ _ _ us hl => match us, hl with | [_], _ => rfl
  have blaw_filled := Flaw_filled.binds (ps := ["_law_table", "_law_order", "_law_row", "_law_senders"]) fun _ _ _ _ _ _ us hl => match us, hl with | [_, _, _, _], _ => rfl
  have blaw := Flaw.binds (ps := ["_law_script"]) fun _ _ _ _ _ _ us hl => match us, hl with | [_], _ => rfl
  refine ⟨PySem.W.fnOf "law" "law" (defArgs s_law) (defBody s_law) (defScope s_law) .none kVlaw dclaw pmlaw anlaw cdlaw ctlaw, fun s v => .of_eq rfl, fun base _ _ => ?_⟩
  · skip
    have V_SE : VOC K C l.prog w mg base "Senders" f_SE_init 1 := ⟨ginit, _, _, ⟨mk, ainit, iinit, kc⟩, d_SE_init Finit T, PySem.W.mg_of X G aC, binit⟩
    have K_give : KOC K C l.prog w mg base "give" 4 f_SE_give ["standing", "by_hand"] 2 1 := ⟨ggive, _, _, cl, ⟨agive, igive, kgive⟩, d_SE_give Fgive T, ⟨fun s us ws _ h1 h2 => match us, ws, h1, h2 with | [_, _], [_, _], _, _ => .of_eq rfl⟩⟩
    have D_give : MOC K C l.prog w mg base "give" 4 f_SE_give [.bl false] 1 := ⟨ggive, _, _, [.bool false], cl, ⟨agive, igive, kgive⟩, d_SE_give Fgive T, bgive, .cons rfl .nil⟩
    have M_standings_of : MOC K C l.prog w mg base "standings_of" 2 (thaw f_SE_standings_of) [] 1 := ⟨gstandings_of, _, _, [], cl, ⟨astandings_of, istandings_of, kstandings_of⟩, (d_SE_standings_of Fstandings_of T ).imp fun vs H Q E h => thaw_sp h, bstandings_of, .nil⟩
    have M_by_hand : MOC K C l.prog w mg base "by_hand" 2 (thaw f_SE_by_hand) [] 1 := ⟨gby_hand, _, _, [], cl, ⟨aby_hand, iby_hand, kby_hand⟩, (d_SE_by_hand Fby_hand T ).imp fun vs H Q E h => thaw_sp h, bby_hand, .nil⟩
    have F_names : MOC K C l.prog w mg base "names" 1 f_SE_names [] 1 := ⟨gnames, _, _, [], cl, ⟨anames, inames, knames⟩, d_SE_names Fnames T , bnames, .nil⟩
    have M_names : MOC K C l.prog w mg base "names" 1 (thaw f_SE_names) [] 1 := ⟨gnames, _, _, [], cl, ⟨anames, inames, knames⟩, (d_SE_names Fnames T ).imp fun vs H Q E h => thaw_sp h, bnames, .nil⟩
    have S_contains : SOC K C l.prog w mg base "__contains__" 2 (thaw f_SE_contains) 1 := ⟨gcontains, _, _, acontains, icontains, (d_SE_contains Fcontains T ).imp fun vs H Q E h => thaw_sp h, bcontains⟩
    have S_len : SOC K C l.prog w mg base "__len__" 1 (thaw f_SE_len) 2 := ⟨glen, _, _, alen, ilen, (d_SE_len Flen T F_names).imp fun vs H Q E h => thaw_sp h, blen⟩
    have C_is_name : Ca (gam K C) l.prog w mg base "is_name" 1 f_is_name 1 := ⟨gis_name, _, _, d_is_name Fis_name T , PySem.W.mg_of X G ais_name, kis_name, bis_name⟩
    have C_is_sender : Ca (gam K C) l.prog w mg base "is_sender" 1 f_is_sender 2 := ⟨gis_sender, _, _, d_is_sender Fis_sender T C_is_name, PySem.W.mg_of X G ais_sender, kis_sender, bis_sender⟩
    have C_law_bag : Ca (gam K C) l.prog w mg base "_law_bag" 2 f_law_bag 1 := ⟨glaw_bag, _, _, d_law_bag Flaw_bag T , PySem.W.mg_of X G alaw_bag, klaw_bag, blaw_bag⟩
    have C_law_take : Ca (gam K C) l.prog w mg base "_law_take" 2 f_law_take 1 := ⟨glaw_take, _, _, d_law_take Flaw_take T , PySem.W.mg_of X G alaw_take, klaw_take, blaw_take⟩
    have C_law_of : Ca (gam K C) l.prog w mg base "_law_of" 2 f_law_of 2 := ⟨glaw_of, _, _, d_law_of Flaw_of T C_law_take, PySem.W.mg_of X G alaw_of, klaw_of, blaw_of⟩
    have C_law_names : Ca (gam K C) l.prog w mg base "_law_names" 2 f_law_names 3 := ⟨glaw_names, _, _, d_law_names Flaw_names T C_law_of C_law_take, PySem.W.mg_of X G alaw_names, klaw_names, blaw_names⟩
    have C_law_told : Ca (gam K C) l.prog w mg base "_law_told" 4 f_law_told 4 := ⟨glaw_told, _, _, d_law_told Flaw_told T M_standings_of M_by_hand S_contains S_len M_names, PySem.W.mg_of X G alaw_told, klaw_told, blaw_told⟩
    have L_law_told : Ca (gam K C) l.prog w mg base "_law_told" 4 (lend 2 f_law_told) 4 := ⟨glaw_told, _, _, (d_law_told Flaw_told T M_standings_of M_by_hand S_contains S_len M_names).imp fun vs H Q E h => lend_sp h, PySem.W.mg_of X G alaw_told, klaw_told, blaw_told⟩
    have C_law_given : Ca (gam K C) l.prog w mg base "_law_given" 2 f_law_given 2 := ⟨glaw_given, _, _, d_law_given Flaw_given T K_give D_give, PySem.W.mg_of X G alaw_given, klaw_given, blaw_given⟩
    have C_law_bool : Ca (gam K C) l.prog w mg base "_law_bool" 2 f_law_bool 1 := ⟨glaw_bool, _, _, d_law_bool Flaw_bool T , PySem.W.mg_of X G alaw_bool, klaw_bool, blaw_bool⟩
    have C_law_bent : Ca (gam K C) l.prog w mg base "_law_bent" 1 f_law_bent 1 := ⟨glaw_bent, _, _, d_law_bent Flaw_bent T , PySem.W.mg_of X G alaw_bent, klaw_bent, blaw_bent⟩
    have C_law_none : Ca (gam K C) l.prog w mg base "_law_none" 1 f_law_none 3 := ⟨glaw_none, _, _, d_law_none Flaw_none T C_is_sender, PySem.W.mg_of X G alaw_none, klaw_none, blaw_none⟩
    have C_law_filled : Ca (gam K C) l.prog w mg base "_law_filled" 4 f_law_filled 5 := ⟨glaw_filled, _, _, d_law_filled Flaw_filled T C_law_bool C_law_given L_law_told, PySem.W.mg_of X G alaw_filled, klaw_filled, blaw_filled⟩
    exact (d_law Flaw T C_law_bag C_law_names C_law_take C_law_of V_SE C_law_told C_law_filled M_names C_law_none C_law_bent C_is_sender).imp fun vs H Q E h => spLaw_sp hL h
theorem walk {l : PySem.W.OpenLaw} {q : Program} {loose : List Str} {XP : (Str → Option Value) → Heap → Prop} {YP : World → Heap → Prop} {d : DefRec} {K : Params → PySem.W.Frag} (hn : l.most = some 63) (hdf : d.params.defaults = [])
    (hY : ∀ (w : World) (h : Heap), YP w h → (K w.params).In h)
    (F : ∀ (w : World) (mg : Str → Option Value) (fa : Addr) (h : Heap), (K w.params).In h → h.Ns mainGlobals mg → mg d.name = some (.ref fa) →
      ∃ fd : FuncData, (∀ (s : Shared) (u : Value), BindsTo s fd ⟨[u], []⟩ [("_law_script", u)]) ∧ ∀ base : Heap, (K w.params).In base → base.Ns mainGlobals mg → FnOk l.prog w (K w.params) mg base CX0 6 fa fd ["_law_script"] (spLaw (K w.params))) :
    PySem.W.WalkO q loose XP YP l.row.toRowW d [] (fun f vs => PySem.call f vs) :=
  L2.walk_of (n := 63) (k := 6) (x := "_law_script") (CX := fun _ => CX0) (sp := fun w => spLaw (K w.params)) hn (by decide) hdf ⟨rfl, by decide, by decide⟩ hY F (fun _ _ a ns hl _ hS => ⟨a, ns, rfl, hS, hl, fun _ => rfl⟩) fun _ _ _ _ _ z => z
end K

open PySem PySem.W PyProof.Rows
set_option maxRecDepth 100000 in
set_option maxHeartbeats 0 in
theorem PySem.Challenge.cw_filedalike_k21_standings_of_senders_holds : PySem.Challenge.rw_filedalike_k21_standings_of_senders.Holds := by
  w_on; o_law; k_head; (case hw => w_witness2)
  k_fill
  refine K.walk (l := PySem.Challenge.rw_filedalike_k21_standings_of_senders) rfl rfl (fun w h Y => PySem.W.kIn_of Y) ?F
  case F =>
    intro w mg fa h KX G hmg
    refine' K.all_mk K.law_true KX G hmg ?aC ?ainit ?iinit ?linit ?cinit ?kinit ?agive ?igive ?lgive ?cgive ?kgive ?astandings_of ?istandings_of ?lstandings_of ?cstandings_of ?kstandings_of ?aby_hand ?iby_hand ?lby_hand ?cby_hand ?kby_hand ?anames ?inames ?lnames ?cnames ?knames ?acontains ?icontains ?lcontains ?ccontains ?kcontains ?alen ?ilen ?llen ?clen ?klen ?kwgive ?ais_name ?lis_name ?cis_name ?kis_name ?ais_sender ?lis_sender ?cis_sender ?kis_sender ?alaw_bag ?llaw_bag ?claw_bag ?klaw_bag ?alaw_take ?llaw_take ?claw_take ?klaw_take ?alaw_of ?llaw_of ?claw_of ?klaw_of ?alaw_names ?llaw_names ?claw_names ?klaw_names ?alaw_told ?llaw_told ?claw_told ?klaw_told ?alaw_given ?llaw_given ?claw_given ?klaw_given ?alaw_bool ?llaw_bool ?claw_bool ?klaw_bool ?alaw_bent ?llaw_bent ?claw_bent ?klaw_bent ?alaw_none ?llaw_none ?claw_none ?klaw_none ?alaw_filled ?llaw_filled ?claw_filled ?klaw_filled ?alaw ?llaw ?claw ?klaw ?gSG ?gMS ?pg ?hd ?po ?sa ?mk ?kc ?nO ?nG ?nS ?zabs ?zall ?zbool ?zenumerate ?zint ?zisinstance ?zlen ?zlist ?zmax ?zmin ?zrange ?zset ?zsorted ?zstr ?ztuple
    (case aC => k_is); (case ainit => k_is); (case iinit => k_is); (case linit => k_is); (case cinit => k_is); (case kinit => k_is)
    (case agive => k_is); (case igive => k_is); (case lgive => k_is); (case cgive => k_is); (case kgive => k_is); (case astandings_of => k_is)
    (case istandings_of => k_is); (case lstandings_of => k_is); (case cstandings_of => k_is); (case kstandings_of => k_is); (case aby_hand => k_is); (case iby_hand => k_is)
    (case lby_hand => k_is); (case cby_hand => k_is); (case kby_hand => k_is); (case anames => k_is); (case inames => k_is); (case lnames => k_is)
    (case cnames => k_is); (case knames => k_is); (case acontains => k_is); (case icontains => k_is); (case lcontains => k_is); (case ccontains => k_is)
    (case kcontains => k_is); (case alen => k_is); (case ilen => k_is); (case llen => k_is); (case clen => k_is); (case klen => k_is)
    (case kwgive => k_is); (case ais_name => k_is); (case lis_name => k_is); (case cis_name => k_is); (case kis_name => k_is); (case ais_sender => k_is)
    (case lis_sender => k_is); (case cis_sender => k_is); (case kis_sender => k_is); (case alaw_bag => k_is); (case llaw_bag => k_is); (case claw_bag => k_is)
    (case klaw_bag => k_is); (case alaw_take => k_is); (case llaw_take => k_is); (case claw_take => k_is); (case klaw_take => k_is); (case alaw_of => k_is)
    (case llaw_of => k_is); (case claw_of => k_is); (case klaw_of => k_is); (case alaw_names => k_is); (case llaw_names => k_is); (case claw_names => k_is)
    (case klaw_names => k_is); (case alaw_told => k_is); (case llaw_told => k_is); (case claw_told => k_is); (case klaw_told => k_is); (case alaw_given => k_is)
    (case llaw_given => k_is); (case claw_given => k_is); (case klaw_given => k_is); (case alaw_bool => k_is); (case llaw_bool => k_is); (case claw_bool => k_is)
    (case klaw_bool => k_is); (case alaw_bent => k_is); (case llaw_bent => k_is); (case claw_bent => k_is); (case klaw_bent => k_is); (case alaw_none => k_is)
    (case llaw_none => k_is); (case claw_none => k_is); (case klaw_none => k_is); (case alaw_filled => k_is); (case llaw_filled => k_is); (case claw_filled => k_is)
    (case klaw_filled => k_is); (case alaw => k_is); (case llaw => k_is); (case claw => k_is); (case klaw => k_is); (case gSG => k_is)
    (case gMS => k_is); (case pg => k_is); (case hd => k_is); (case po => k_is); (case sa => k_is); (case mk => k_is)
    (case kc => k_is); (case nO => k_is); (case nG => k_is); (case nS => k_is); (case zabs => k_is); (case zall => k_is)
    (case zbool => k_is); (case zenumerate => k_is); (case zint => k_is); (case zisinstance => k_is); (case zlen => k_is); (case zlist => k_is)
    (case zmax => k_is); (case zmin => k_is); (case zrange => k_is); (case zset => k_is); (case zsorted => k_is); (case zstr => k_is)
    (case ztuple => k_is)


