import PyProof.Rows.All
import Wide.All
import OpenK.AllK
import Wide.FinOn
import HandS.ForMost
import HandS.Flow
import HandS.Style
import HandS.Deep
import HandS.IsInst
import HandS.TupAny
import HandS.Wide
import HandS.SortInts
import HandS.Conv
import HandS.Star
import HandS.SlotsOwn
import HandS.TupLe
import KE.KExcSuper
import HandS.ExcInit
import HandS.FStr
import HandS.MakeKwOnly
import HandS.ExcOwn
import HandS.TryOnly
import HandS.ExcField
import HandS.ClsMeth
import HandS.Zip
import HandS.SetFor
import PyProof.InstNe
import PySem.Challenge.RW_filedalike_k00_letters_made_and_refused
import HandS.Codes
import HandS.Defaults
set_option Elab.async false
set_option linter.all false
set_option maxRecDepth 100000
set_option maxHeartbeats 4000000
/-! G0: pure data over the abstract heap, owned things, worlds and their steps -/
namespace G
open PySem L2

inductive D where
  | non | bl (b : Bool) | int (i : Int) | str (s : Str) | tup (xs : List D) | lst (xs : List D) | ins (c : Nat) (fs : List D) | odd

structure Gam where
  K : PySem.W.Frag
  cls : Nat → Option (Addr × List Str)
  Ob : Type
  orep : (Addr → Prop) → Hp → V → Ob → (Addr → Prop) → Prop
  omono : ∀ (M : Addr → Prop) (H : Hp) (M' : Addr → Prop) (H' : Hp) (v : V) (o : Ob) (Fr : Addr → Prop), orep M H v o Fr →
    (∀ a u, ¬ M a ∨ Fr a → H a = some u → H' a = some u) → (∀ a, ¬ M a → H a ≠ none → ¬ M' a) → orep M' H' v o Fr

/-- a tuple (a list) to be read that nobody may change -/
def TupM (K : PySem.W.Frag) (M : Addr → Prop) (H : Hp) (a : Addr) (vs : List V) : Prop :=
  (¬ M a ∧ Rd H a (.tup vs)) ∨ ((∀ H', SqT K H' a vs))
def LstM (K : PySem.W.Frag) (M : Addr → Prop) (H : Hp) (a : Addr) (vs : List V) : Prop :=
  (¬ M a ∧ Rd H a (.lst vs)) ∨ ((∀ H', SqL K H' a vs))
theorem TupM.sq {K : PySem.W.Frag} {M : Addr → Prop} {H : Hp} {a : Addr} {vs : List V} (h : TupM K M H a vs) : SqT K H a vs := by
  rcases h with h | h
  · exact .inl h.2
  · exact h H
theorem LstM.sq {K : PySem.W.Frag} {M : Addr → Prop} {H : Hp} {a : Addr} {vs : List V} (h : LstM K M H a vs) : SqL K H a vs := by
  rcases h with h | h
  · exact .inl h.2
  · exact h H
/-- H' tells all that H tells of what is not in M; what was there and not in M is not in M' -/
structure Go (M : Addr → Prop) (H : Hp) (M' : Addr → Prop) (H' : Hp) : Prop where
  keep : ∀ a u, ¬ M a → H a = some u → H' a = some u
  stay : ∀ a, ¬ M a → H a ≠ none → ¬ M' a
theorem TupM.go {K : PySem.W.Frag} {M M' : Addr → Prop} {H H' : Hp} {a : Addr} {vs : List V} (h : TupM K M H a vs) (g : Go M H M' H') : TupM K M' H' a vs := by
  rcases h with ⟨n, h⟩ | h
  · refine .inl ?_
    rcases h with h | ⟨o, h⟩
    · exact ⟨g.stay a n (by rw [h]; simp), .inl (g.keep a _ n h)⟩
    · exact ⟨g.stay a n (by rw [h]; simp), .inr ⟨o, g.keep a _ n h⟩⟩
  · exact .inr h
theorem LstM.go {K : PySem.W.Frag} {M M' : Addr → Prop} {H H' : Hp} {a : Addr} {vs : List V} (h : LstM K M H a vs) (g : Go M H M' H') : LstM K M' H' a vs := by
  rcases h with ⟨n, h⟩ | h
  · refine .inl ?_
    rcases h with h | ⟨o, h⟩
    · exact ⟨g.stay a n (by rw [h]; simp), .inl (g.keep a _ n h)⟩
    · exact ⟨g.stay a n (by rw [h]; simp), .inr ⟨o, g.keep a _ n h⟩⟩
  · exact .inr h

mutual
/-- the value v bears the data d, which nobody will change -/
inductive Dat (Γ : Gam) (M : Addr → Prop) (H : Hp) : V → D → Prop
  | non : Dat Γ M H .non .non
  | bl (b : Bool) : Dat Γ M H (.bl b) (.bl b)
  | int (i : Int) : Dat Γ M H (.int i) (.int i)
  | str (x : Str) : Dat Γ M H (.str x) (.str x)
  | tup {a : Addr} {vs : List V} {ds : List D} : TupM Γ.K M H a vs → Dats Γ M H vs ds → Dat Γ M H (.ref a) (.tup ds)
  | lst {a : Addr} {vs : List V} {ds : List D} : ¬ M a → H a = some (.lst vs) → Dats Γ M H vs ds → Dat Γ M H (.ref a) (.lst ds)
  | ins {a C dx : Addr} {c : Nat} {ns : List Str} {vs : List V} {ds : List D} : Γ.cls c = some (C, ns) → ¬ M a → H a = some (.ins C dx (ns.zip vs)) → ns.length = vs.length → Dats Γ M H vs ds → Dat Γ M H (.ref a) (.ins c ds)
  | odd {a : Addr} {vs : List (Key × V)} : ¬ M a → H a = some (.dK vs) → Dat Γ M H (.ref a) .odd
inductive Dats (Γ : Gam) (M : Addr → Prop) (H : Hp) : List V → List D → Prop
  | nil : Dats Γ M H [] []
  | cons {v : V} {vs : List V} {d : D} {ds : List D} : Dat Γ M H v d → Dats Γ M H vs ds → Dats Γ M H (v :: vs) (d :: ds)
end

mutual
theorem Dat.go {Γ : Gam} {M M' : Addr → Prop} {H H' : Hp} (g : Go M H M' H') : ∀ {v : V} {d : D}, Dat Γ M H v d → Dat Γ M' H' v d
  | _, _, .non => .non
  | _, _, .bl b => .bl b
  | _, _, .int i => .int i
  | _, _, .str x => .str x
  | _, _, .tup h r => .tup (h.go g) (Dats.go g r)
  | _, _, .lst n h r => .lst (g.stay _ n (by rw [h]; simp)) (g.keep _ _ n h) (Dats.go g r)
  | _, _, .ins e n h l r => .ins e (g.stay _ n (by rw [h]; simp)) (g.keep _ _ n h) l (Dats.go g r)
  | _, _, .odd n h => .odd (g.stay _ n (by rw [h]; simp)) (g.keep _ _ n h)
theorem Dats.go {Γ : Gam} {M M' : Addr → Prop} {H H' : Hp} (g : Go M H M' H') : ∀ {vs : List V} {ds : List D}, Dats Γ M H vs ds → Dats Γ M' H' vs ds
  | _, _, .nil => .nil
  | _, _, .cons h r => .cons (Dat.go g h) (Dats.go g r)
end
section
variable {Γ : Gam} {M : Addr → Prop} {H : Hp}
theorem Dats.length : ∀ {vs : List V} {ds : List D}, Dats Γ M H vs ds → vs.length = ds.length
  | _, _, .nil => rfl
  | _, _, .cons _ r => by rw [List.length_cons, List.length_cons, Dats.length r]
theorem Dats.append : ∀ {vs ws : List V} {ds es : List D}, Dats Γ M H vs ds → Dats Γ M H ws es → Dats Γ M H (vs ++ ws) (ds ++ es)
  | _, _, _, _, .nil, s => s
  | _, _, _, _, .cons h r, s => .cons h (Dats.append r s)
theorem Dats.get : ∀ {vs : List V} {ds : List D} {i : Nat} {d : D}, Dats Γ M H vs ds → ds[i]? = some d → ∃ v, vs[i]? = some v ∧ Dat Γ M H v d
  | _, _, _, _, .nil, e => by simp at e
  | _, _, 0, _, .cons h _, e => by simp at e; subst e; exact ⟨_, rfl, h⟩
  | _, _, i + 1, d, .cons _ r, e => by
    obtain ⟨v, h1, h2⟩ := Dats.get (i := i) (d := d) r (by simpa using e)
    exact ⟨v, by simpa using h1, h2⟩
theorem Dats.getV : ∀ {vs : List V} {ds : List D} {i : Nat} {v : V}, Dats Γ M H vs ds → vs[i]? = some v → ∃ d, ds[i]? = some d ∧ Dat Γ M H v d
  | _, _, _, _, .nil, e => by simp at e
  | _, _, 0, _, .cons h _, e => by simp at e; subst e; exact ⟨_, rfl, h⟩
  | _, _, i + 1, v, .cons _ r, e => by
    obtain ⟨d, h1, h2⟩ := Dats.getV (i := i) (v := v) r (by simpa using e)
    exact ⟨d, by simpa using h1, h2⟩
theorem Dats.take : ∀ {vs : List V} {ds : List D} (n : Nat), Dats Γ M H vs ds → Dats Γ M H (vs.take n) (ds.take n)
  | _, _, 0, _ => .nil
  | _, _, _ + 1, .nil => .nil
  | _, _, n + 1, .cons h r => .cons h (Dats.take n r)
theorem Dats.drop : ∀ {vs : List V} {ds : List D} (n : Nat), Dats Γ M H vs ds → Dats Γ M H (vs.drop n) (ds.drop n)
  | _, _, 0, r => r
  | _, _, _ + 1, .nil => .nil
  | _, _, n + 1, .cons _ r => Dats.drop n r
theorem Dats.set {v : V} {d : D} (h : Dat Γ M H v d) : ∀ {vs : List V} {ds : List D} (i : Nat), Dats Γ M H vs ds → Dats Γ M H (vs.set i v) (ds.set i d)
  | _, _, _, .nil => .nil
  | _, _, 0, .cons _ r => .cons h r
  | _, _, i + 1, .cons q r => .cons q (Dats.set h i r)
theorem Dats.eraseIdx : ∀ {vs : List V} {ds : List D} (i : Nat), Dats Γ M H vs ds → Dats Γ M H (vs.eraseIdx i) (ds.eraseIdx i)
  | _, _, _, .nil => .nil
  | _, _, 0, .cons _ r => r
  | _, _, i + 1, .cons q r => .cons q (Dats.eraseIdx i r)
theorem Dats.reverse {vs : List V} {ds : List D} (h : Dats Γ M H vs ds) : Dats Γ M H vs.reverse ds.reverse := by
  have go : ∀ {vs ws : List V} {ds es : List D}, Dats Γ M H vs ds → Dats Γ M H ws es → Dats Γ M H (vs.reverseAux ws) (ds.reverseAux es) := by
    intro vs
    induction vs with
    | nil => intro ws ds es h1 h2; cases h1; exact h2
    | cons v vs ih => intro ws ds es h1 h2; cases h1 with | cons a b => exact ih (es := _ :: _) b (.cons a h2)
  exact go h .nil
end

/-- what an attribute of an owned instance holds -/
inductive Fd where
  | dat (d : D) | lst (ds : List D) | dic (kvs : List (Key × D))
/-- what a slot of a frame holds: nothing, data, the script, or a thing that this frame alone may change -/
inductive Sl (Γ : Gam) where
  | none | dat (d : D) | scr (ns : List Int) | lst (ds : List D) | dic (kvs : List (Key × D)) | ins (c : Nat) (fs : List (Str × Fd)) | obj (o : Γ.Ob)

inductive KDats (Γ : Gam) (M : Addr → Prop) (H : Hp) : List (Key × V) → List (Key × D) → Prop
  | nil : KDats Γ M H [] []
  | cons {k : Key} {v : V} {vs : List (Key × V)} {d : D} {ds : List (Key × D)} : Dat Γ M H v d → KDats Γ M H vs ds → KDats Γ M H ((k, v) :: vs) ((k, d) :: ds)
theorem KDats.go {Γ : Gam} {M M' : Addr → Prop} {H H' : Hp} (g : Go M H M' H') : ∀ {vs : List (Key × V)} {ds : List (Key × D)}, KDats Γ M H vs ds → KDats Γ M' H' vs ds
  | _, _, .nil => .nil
  | _, _, .cons h r => .cons (h.go g) (KDats.go g r)

/-- the value v bears what an attribute holds; G: the addresses that it owns -/
def FdR (Γ : Gam) (M : Addr → Prop) (H : Hp) (v : V) (x : Fd) (G : Addr → Prop) : Prop :=
  match x with
  | .dat d => Dat Γ M H v d ∧ ∀ a, ¬ G a
  | .lst ds => ∃ p vs, v = .ref p ∧ H p = some (.lst vs) ∧ Dats Γ M H vs ds ∧ ∀ a, G a ↔ a = p
  | .dic kvs => ∃ p vs, v = .ref p ∧ H p = some (.dK vs) ∧ KDats Γ M H vs kvs ∧ ∀ a, G a ↔ a = p
theorem FdR.go {Γ : Gam} {M M' : Addr → Prop} {H H' : Hp} {v : V} {x : Fd} {G : Addr → Prop} (h : FdR Γ M H v x G) (g : Go M H M' H') (k : ∀ a u, G a → H a = some u → H' a = some u) : FdR Γ M' H' v x G := by
  cases x with
  | dat d => exact ⟨h.1.go g, h.2⟩
  | lst ds => obtain ⟨p, vs, e, hp, r, n⟩ := h; exact ⟨p, vs, e, k p _ ((n p).mpr rfl) hp, r.go g, n⟩
  | dic kvs => obtain ⟨p, vs, e, hp, r, n⟩ := h; exact ⟨p, vs, e, k p _ ((n p).mpr rfl) hp, r.go g, n⟩
/-- the attributes, one behind another; what they own is apart -/
inductive FdRs (Γ : Gam) (M : Addr → Prop) (H : Hp) : List (Str × V) → List (Str × Fd) → (Addr → Prop) → Prop
  | nil {G : Addr → Prop} : (∀ a, ¬ G a) → FdRs Γ M H [] [] G
  | cons {n : Str} {v : V} {x : Fd} {vs : List (Str × V)} {xs : List (Str × Fd)} {G G1 G2 : Addr → Prop} : FdR Γ M H v x G1 → FdRs Γ M H vs xs G2 → (∀ a, G1 a → ¬ G2 a) → (∀ a, G a ↔ G1 a ∨ G2 a) → FdRs Γ M H ((n, v) :: vs) ((n, x) :: xs) G
theorem FdRs.go {Γ : Gam} {M M' : Addr → Prop} {H H' : Hp} (g : Go M H M' H') : ∀ {vs : List (Str × V)} {xs : List (Str × Fd)} {G : Addr → Prop}, FdRs Γ M H vs xs G → (∀ a u, G a → H a = some u → H' a = some u) → FdRs Γ M' H' vs xs G
  | _, _, _, .nil h, _ => .nil h
  | _, _, _, .cons h r d e, k => .cons (h.go g fun a u z => k a u ((e a).mpr (.inl z))) (FdRs.go g r fun a u z => k a u ((e a).mpr (.inr z))) d e

/-- the value v bears s; Fr: the addresses that s owns -/
def SR (Γ : Gam) (M : Addr → Prop) (H : Hp) (v : V) (s : Sl Γ) (Fr : Addr → Prop) : Prop :=
  match s with
  | .none => False
  | .dat d => Dat Γ M H v d ∧ ∀ a, ¬ Fr a
  | .scr ns => (∃ a, v = .ref a ∧ LstM Γ.K M H a (ns.map V.int)) ∧ ∀ a, ¬ Fr a
  | .lst ds => ∃ p vs, v = .ref p ∧ H p = some (.lst vs) ∧ Dats Γ M H vs ds ∧ ∀ a, Fr a ↔ a = p
  | .dic kvs => ∃ p vs, v = .ref p ∧ H p = some (.dK vs) ∧ KDats Γ M H vs kvs ∧ ∀ a, Fr a ↔ a = p
  | .ins c fs => ∃ a C ns dx vs G, v = .ref a ∧ Γ.cls c = some (C, ns) ∧ H a = some (.ins C dx vs) ∧ FdRs Γ M H vs fs G ∧ ¬ G a ∧ ∀ b, Fr b ↔ b = a ∨ G b
  | .obj o => Γ.orep M H v o Fr
theorem SR.go {Γ : Gam} {M M' : Addr → Prop} {H H' : Hp} {v : V} {s : Sl Γ} {Fr : Addr → Prop} (h : SR Γ M H v s Fr) (g : Go M H M' H') (k : ∀ a u, Fr a → H a = some u → H' a = some u) : SR Γ M' H' v s Fr := by
  cases s with
  | none => exact h
  | dat d => exact ⟨h.1.go g, h.2⟩
  | scr ns => obtain ⟨⟨a, e, h⟩, n⟩ := h; exact ⟨⟨a, e, h.go g⟩, n⟩
  | lst ds => obtain ⟨p, vs, e, hp, r, n⟩ := h; exact ⟨p, vs, e, k p _ ((n p).mpr rfl) hp, r.go g, n⟩
  | dic kvs => obtain ⟨p, vs, e, hp, r, n⟩ := h; exact ⟨p, vs, e, k p _ ((n p).mpr rfl) hp, r.go g, n⟩
  | ins c fs =>
    obtain ⟨a, C, ns, dx, vs, G, e1, e2, hp, r, n, f⟩ := h
    exact ⟨a, C, ns, dx, vs, G, e1, e2, k a _ ((f a).mpr (.inl rfl)) hp, r.go g fun b u z => k b u ((f b).mpr (.inr z)), n, f⟩
  | obj o => exact Γ.omono M H M' H' v o Fr h (fun a u c e => c.elim (fun n => g.keep a u n e) fun f => k a u f e) g.stay

/-- a world: what may be changed (by whom ever), what each slot of this frame owns, the heap -/
structure Wd where
  M : Addr → Prop
  F : Nat → Addr → Prop
  H : Hp
abbrev Env (Γ : Gam) := List (Sl Γ)

def SltR (Γ : Gam) (w : Wd) (σ : St) (i : Nat) (s : Sl Γ) : Prop :=
  (s = .none ∧ ∀ a, ¬ w.F i a) ∨ ∃ v, σ[i]? = some (some v) ∧ SR Γ w.M w.H v s (w.F i)
structure ER (Γ : Gam) (w : Wd) (σ : St) (env : Env Γ) : Prop where
  len : env.length = σ.length
  slot : ∀ i s, env[i]? = some s → SltR Γ w σ i s
  sub : ∀ i a, w.F i a → w.M a
  dis : ∀ i j a, w.F i a → w.F j a → i = j
  dom : ∀ a, w.M a → w.H a ≠ none
  out : ∀ i, env.length ≤ i → ∀ a, ¬ w.F i a
structure Step (w w' : Wd) : Prop where
  keep : ∀ a u, (∀ i, ¬ w.F i a) → w.H a = some u → w'.H a = some u
  mu : ∀ a, (∀ i, ¬ w.F i a) → w.M a → w'.M a
  src : ∀ a, w'.M a → w.M a ∨ w.H a = none
  own : ∀ i a, w'.F i a → (∃ j, w.F j a) ∨ w.H a = none
  live : ∀ a, w.H a ≠ none → w'.H a ≠ none
theorem Step.refl (w : Wd) : Step w w := ⟨fun _ _ _ h => h, fun _ _ h => h, fun _ h => .inl h, fun i _ h => .inl ⟨i, h⟩, fun _ h => h⟩
theorem Step.off {w w' : Wd} (s : Step w w') {a : Addr} (h : ∀ i, ¬ w.F i a) (hn : w.H a ≠ none) : ∀ i, ¬ w'.F i a := fun i q => by
  rcases s.own i a q with ⟨j, z⟩ | z
  · exact h j z
  · exact hn z
theorem Step.trans {w w1 w2 : Wd} (s : Step w w1) (t : Step w1 w2) (dom : ∀ a, w.M a → w.H a ≠ none) : Step w w2 where
  keep := fun a u h e => t.keep a u (s.off h (by rw [e]; simp)) (s.keep a u h e)
  mu := fun a h m => t.mu a (s.off h (dom a m)) (s.mu a h m)
  src := fun a m => by
    rcases t.src a m with z | z
    · exact s.src a z
    · refine .inr ?_
      cases q : w.H a with
      | none => rfl
      | some u => exact absurd z (s.live a (by rw [q]; simp))
  own := fun i a f => by
    rcases t.own i a f with ⟨j, z⟩ | z
    · exact s.own j a z
    · refine .inr ?_
      cases q : w.H a with
      | none => rfl
      | some u => exact absurd z (s.live a (by rw [q]; simp))
  live := fun a h => t.live a (s.live a h)
def Fresh (w : Wd) (Fr : Addr → Prop) : Prop := ∀ a, Fr a → (∃ i, w.F i a) ∨ w.H a = none
theorem Fresh.back {w w1 : Wd} {Fr : Addr → Prop} (s : Step w w1) (h : Fresh w1 Fr) : Fresh w Fr := fun a f => by
  rcases h a f with ⟨j, z⟩ | z
  · exact s.own j a z
  · refine .inr ?_
    cases q : w.H a with
    | none => rfl
    | some u => exact absurd z (s.live a (by rw [q]; simp))
section
variable {Γ : Gam} {w w' : Wd} {σ : St} {env : Env Γ}
theorem ER.go (E : ER Γ w σ env) (s : Step w w') : Go w.M w.H w'.M w'.H :=
  ⟨fun a u n e => s.keep a u (fun i f => n (E.sub i a f)) e, fun a n e m => by
    rcases s.src a m with z | z
    · exact n z
    · exact e z⟩
/-- a temporary value: it owns Fr, which no slot owns -/
structure TR (Γ : Gam) (w : Wd) (v : V) (s : Sl Γ) (Fr : Addr → Prop) : Prop where
  rep : SR Γ w.M w.H v s Fr
  sub : ∀ a, Fr a → w.M a
  off : ∀ a i, Fr a → ¬ w.F i a
theorem TR.step {v : V} {s : Sl Γ} {Fr : Addr → Prop} (E : ER Γ w σ env) (t : TR Γ w v s Fr) (p : Step w w') : TR Γ w' v s Fr where
  rep := t.rep.go (E.go p) fun a u f e => p.keep a u (fun i => t.off a i f) e
  sub := fun a f => p.mu a (fun i => t.off a i f) (t.sub a f)
  off := fun a i f => p.off (fun j => t.off a j f) (E.dom a (t.sub a f)) i
end
end G

/-! G1: readings by what is wanted (wE ..), the judgements of the data level, operations on values -/
namespace G
open PySem L2

def wE (X : Cx) (e : Expr) : TE := fun σ H Q => ∀ pins s, Inv X pins σ H s → wpAny (model X.prog X.w) X.A (eval e X.env) (EP X pins σ Q) X.xe s
def wT (X : Cx) (e : Expr) : TT := fun σ H Q => ∀ pins s, Inv X pins σ H s → wpAny (model X.prog X.w) X.A (isTrue e X.env (eval e X.env)) (TP X pins σ Q) X.xe s
def wW (X : Cx) (e : Expr) : TT := fun σ H Q => ∀ whole pins s, Inv X pins σ H s → wpAny (model X.prog X.w) X.A (isTrue e X.env whole) (TP X pins σ Q) X.xe s
def wS (X : Cx) (st : Stmt) : TS := fun D σ H => ∀ pins s, Inv X pins σ H s → wpAny (model X.prog X.w) X.A (exec st X.env) (SP X pins D) X.xe s
def wSs (X : Cx) (st : List Stmt) : TS := fun D σ H => ∀ pins s, Inv X pins σ H s → wpAny (model X.prog X.w) X.A (execs st X.env) (SP X pins D) X.xe s
def wL (X : Cx) : List Expr → TA
  | [] => tNil
  | e :: es => tCons (wE X e) (wL X es)
section
variable {X : Cx} {e : Expr} {st : Stmt} {sts : List Stmt} {σ : St} {H : Hp}
theorem pe_wE : PE X e (wE X e) := ⟨fun pins s _ _ _ I h => h pins s I⟩
theorem pt_wT : PT X e (wT X e) := ⟨fun pins s _ _ _ I h => h pins s I⟩
theorem pw_wW : PW X e (wW X e) := ⟨fun whole pins s _ _ _ I h => h whole pins s I⟩
theorem ps_wS : PS X st (wS X st) := ⟨fun pins s _ _ _ I h => h pins s I⟩
theorem pss_wSs : PSs X sts (wSs X sts) := ⟨fun pins s _ _ _ I h => h pins s I⟩
theorem wE.of {t : TE} {Q : VK} (h : PE X e t) (q : t σ H Q) : wE X e σ H Q := fun pins s I => h.run pins s σ H Q I q
theorem wT.of {t : TT} {Q : Bool → Hp → Prop} (h : PT X e t) (q : t σ H Q) : wT X e σ H Q := fun pins s I => h.run pins s σ H Q I q
theorem wW.of {t : TT} {Q : Bool → Hp → Prop} (h : PW X e t) (q : t σ H Q) : wW X e σ H Q := fun whole pins s I => h.run whole pins s σ H Q I q
theorem wS.of {t : TS} {D : Ends} (h : PS X st t) (q : t D σ H) : wS X st D σ H := fun pins s I => h.run pins s σ H D I q
theorem wSs.of {t : TS} {D : Ends} (h : PSs X sts t) (q : t D σ H) : wSs X sts D σ H := fun pins s I => h.run pins s σ H D I q
/-- not starred -/
def NS (X : Cx) (e : Expr) : Prop := ∀ es, starEach (e :: es) X.env = (false, eval e X.env) :: starEach es X.env
theorem pa_wL : ∀ {es : List Expr}, (∀ e ∈ es, NS X e) → PA X es (wL X es)
  | [], _ => pa_nil
  | e :: es, h => pa_cons pe_wE (pa_wL fun x hx => h x (List.mem_cons_of_mem _ hx)) (h e List.mem_cons_self es)
end

/-- a context of ours -/
structure Gd (Γ : Gam) (X : Cx) : Prop where
  k : Γ.K = X.K
  calm : X.calm = true
  un : X.A.units + 65 < cLine
  nd : X.N.Nodup
abbrev Ev (Γ : Gam) := Env Γ → Option (Sl Γ × Env Γ)
abbrev Et (Γ : Gam) := Env Γ → Option (Bool × Env Γ)
def SdE (Γ : Gam) (X : Cx) (e : Expr) (f : Ev Γ) : Prop := Gd Γ X → ∀ (σ : St) (env : Env Γ) (r : Sl Γ) (env' : Env Γ) (w : Wd) (Q : VK), f env = some (r, env') → ER Γ w σ env →
  (∀ v w' Fr, ER Γ w' σ env' → TR Γ w' v r Fr → Step w w' → Fresh w Fr → Q v w'.H) → wE X e σ w.H Q
def SdT (Γ : Gam) (X : Cx) (e : Expr) (f : Et Γ) : Prop := Gd Γ X → ∀ (σ : St) (env : Env Γ) (b : Bool) (env' : Env Γ) (w : Wd) (Q : Bool → Hp → Prop), f env = some (b, env') → ER Γ w σ env →
  (∀ w', ER Γ w' σ env' → Step w w' → Q b w'.H) → wT X e σ w.H Q

/-! ### operands -/
inductive AE (Γ : Gam) where
  | brw (i : Nat) | ex (f : Ev Γ)
inductive Ag (Γ : Gam) where
  | brw (i : Nat) | val (s : Sl Γ)
def got {Γ : Gam} : Option (Sl Γ) → Option (Sl Γ)
  | some .none => Option.none
  | o => o
def evA {Γ : Gam} : AE Γ → Env Γ → Option (Ag Γ × Env Γ)
  | .brw i, env => (got env[i]?).map fun _ => (.brw i, env)
  | .ex f, env => (f env).map fun p => (.val p.1, p.2)
def peek {Γ : Gam} : Ag Γ → Env Γ → Option (Sl Γ)
  | .brw i, env => got env[i]?
  | .val s, _ => some s
def SdA (Γ : Gam) (X : Cx) (e : Expr) : AE Γ → Prop
  | .brw i => ∀ (σ : St) (H : Hp) (Q : VK) (v : V), σ[i]? = some (some v) → Q v H → wE X e σ H Q
  | .ex f => SdE Γ X e f
def AR (Γ : Gam) (w : Wd) (σ : St) (v : V) (a : Ag Γ) (Fr : Addr → Prop) : Prop :=
  match a with
  | .brw i => σ[i]? = some (some v) ∧ ∀ a, ¬ Fr a
  | .val s => TR Γ w v s Fr
section
variable {Γ : Gam} {X : Cx} {w w' w1 : Wd} {σ : St} {env env' : Env Γ}
theorem got_some {o : Option (Sl Γ)} {s : Sl Γ} (h : got o = some s) : o = some s ∧ s ≠ .none := by
  cases o with
  | none => cases h
  | some t =>
    cases t with
    | none => cases h
    | _ => cases h; exact ⟨rfl, by intro z; cases z⟩
theorem ER.at (E : ER Γ w σ env) {i : Nat} {s : Sl Γ} (h : got env[i]? = some s) : ∃ v, σ[i]? = some (some v) ∧ SR Γ w.M w.H v s (w.F i) := by
  obtain ⟨h1, h2⟩ := got_some h
  rcases E.slot i s h1 with ⟨z, _⟩ | z
  · exact absurd z h2
  · exact z
theorem AR.step {v : V} {a : Ag Γ} {Fr : Addr → Prop} (E : ER Γ w σ env) (h : AR Γ w σ v a Fr) (p : Step w w') : AR Γ w' σ v a Fr := by
  cases a with
  | brw i => exact h
  | val s => exact TR.step E h p
theorem AR.peek {v : V} {a : Ag Γ} {Fr : Addr → Prop} {s : Sl Γ} (E : ER Γ w σ env) (h : AR Γ w σ v a Fr) (p : peek a env = some s) : ∃ G, SR Γ w.M w.H v s G := by
  cases a with
  | brw i =>
    obtain ⟨u, e, r⟩ := E.at p
    have h1 := h.1
    rw [e] at h1
    cases h1
    exact ⟨_, r⟩
  | val t => cases p; exact ⟨Fr, h.rep⟩
theorem sda_run {e : Expr} {ae : AE Γ} {a : Ag Γ} {Q : VK} (h : SdA Γ X e ae) (hK : Gd Γ X) (he : evA ae env = some (a, env')) (E : ER Γ w σ env)
    (k : ∀ v w' Fr, ER Γ w' σ env' → AR Γ w' σ v a Fr → Step w w' → Fresh w Fr → Q v w'.H) : wE X e σ w.H Q := by
  cases ae with
  | brw i =>
    cases g : got env[i]? with
    | none => simp only [evA, g, Option.map_none] at he; cases he
    | some s =>
      simp only [evA, g, Option.map_some] at he
      cases he
      obtain ⟨v, e1, r⟩ := E.at g
      exact h σ w.H Q v e1 (k v w (fun _ => False) E ⟨e1, fun _ z => z⟩ (Step.refl w) fun _ z => z.elim)
  | ex f =>
    cases g : f env with
    | none => simp only [evA, g, Option.map_none] at he; cases he
    | some p =>
      obtain ⟨s, env1⟩ := p
      simp only [evA, g, Option.map_some] at he
      cases he
      exact h hK σ env s _ w Q g E k

/-! ### what an operation on values hands back -/
def Res (Γ : Gam) (M : Addr → Prop) (H : Hp) (s : Sl Γ) (Q : VK) : Prop := ∀ v H' Fr, (∀ a u, H a = some u → H' a = some u) → (∀ a, Fr a → H a = none ∧ H' a ≠ none) → SR Γ (fun a => M a ∨ Fr a) H' v s Fr → Q v H'
theorem ER.grow {Fr : Addr → Prop} {H' : Hp} (E : ER Γ w σ env) (h1 : ∀ a u, w.H a = some u → H' a = some u) (h2 : ∀ a, Fr a → w.H a = none ∧ H' a ≠ none) : ER Γ ⟨fun a => w.M a ∨ Fr a, w.F, H'⟩ σ env ∧ Step w ⟨fun a => w.M a ∨ Fr a, w.F, H'⟩ := by
  have lv : ∀ a, w.H a ≠ none → H' a ≠ none := fun a h => by
    cases q : w.H a with
    | none => exact absurd q h
    | some u => rw [h1 a u q]; simp
  have st : Step w ⟨fun a => w.M a ∨ Fr a, w.F, H'⟩ := ⟨fun a u _ e => h1 a u e, fun a _ m => .inl m, fun a m => m.imp id fun z => (h2 a z).1, fun i a f => .inl ⟨i, f⟩, lv⟩
  have g := E.go st
  refine ⟨⟨E.len, fun i s e => ?_, fun i a f => .inl (E.sub i a f), E.dis, fun a m => ?_, E.out⟩, st⟩
  · rcases E.slot i s e with z | ⟨v, e1, r⟩
    · exact .inl z
    · exact .inr ⟨v, e1, r.go g fun a u _ q => h1 a u q⟩
  · rcases m with m | m
    · exact lv a (E.dom a m)
    · exact (h2 a m).2
theorem res_of {s : Sl Γ} {Q : VK} (E : ER Γ w σ env) (k : ∀ v w' Fr, ER Γ w' σ env → TR Γ w' v s Fr → Step w w' → Fresh w Fr → Q v w'.H) : Res Γ w.M w.H s Q := fun v H' Fr h1 h2 h3 => by
  obtain ⟨E', st⟩ := E.grow h1 h2
  exact k v _ Fr E' ⟨h3, fun a f => .inr f, fun a i f z => E.dom a (E.sub i a z) (h2 a f).1⟩ st fun a f => .inr (h2 a f).1
variable {M : Addr → Prop} {H : Hp} {Q : VK}
theorem go_or {M : Addr → Prop} {H : Hp} : Go M H (fun a => M a ∨ False) H := ⟨fun _ _ _ h => h, fun _ n _ z => z.elim n id⟩
theorem Res.dat {d : D} {v : V} (k : Res Γ M H (.dat d) Q) (h : Dat Γ M H v d) : Q v H := k v H (fun _ => False) (fun _ _ h => h) (fun _ z => z.elim) ⟨h.go go_or, fun _ z => z⟩
theorem upd_keep {H : Hp} {p : Addr} {o : HO} (hp : H p = none) : ∀ a u, H a = some u → upd H p o a = some u := fun a u e => by rw [upd_ne (ne_of_none e hp)]; exact e
theorem go_new {M : Addr → Prop} {H : Hp} {p : Addr} {o : HO} (hp : H p = none) (N : Addr → Prop) (hN : ∀ a, N a → M a ∨ a = p) : Go M H N (upd H p o) :=
  ⟨fun a u _ e => upd_keep hp a u e, fun a n e z => (hN a z).elim n fun q => e (q ▸ hp)⟩
theorem Res.tup {vs : List V} {ds : List D} {p : Addr} (k : Res Γ M H (.dat (.tup ds)) Q) (dom : ∀ a, M a → H a ≠ none) (h : Dats Γ M H vs ds) (hp : H p = none) : Q (.ref p) (upd H p (.tup vs)) :=
  k _ _ (fun _ => False) (upd_keep hp) (fun _ z => z.elim) ⟨.tup (.inl ⟨fun z => z.elim (fun m => dom p m hp) id, .inl upd_same⟩) (h.go (go_new hp _ fun a z => .inl (z.elim id False.elim))), fun _ z => z⟩
theorem Res.lst {vs : List V} {ds : List D} {p : Addr} (k : Res Γ M H (.lst ds) Q) (h : Dats Γ M H vs ds) (hp : H p = none) : Q (.ref p) (upd H p (.lst vs)) :=
  k _ _ (fun a => a = p) (upd_keep hp) (fun a z => by subst z; exact ⟨hp, by rw [upd_same]; simp⟩) ⟨p, vs, rfl, upd_same, h.go (go_new hp _ fun a z => z), fun a => Iff.rfl⟩
end

/-! ### operations of one, two, many values -/
def Prim1 (Γ : Gam) (r : V → Hp → VK → Prop) (p : Sl Γ → Option (Sl Γ)) : Prop := ∀ (M : Addr → Prop) (H : Hp) (x : V) (sx s : Sl Γ) (Gx : Addr → Prop) (Q : VK), (∀ a, M a → H a ≠ none) → p sx = some s → SR Γ M H x sx Gx → Res Γ M H s Q → r x H Q
def Prim2 (Γ : Gam) (r : R2) (p : Sl Γ → Sl Γ → Option (Sl Γ)) : Prop := ∀ (M : Addr → Prop) (H : Hp) (x y : V) (sx sy s : Sl Γ) (Gx Gy : Addr → Prop) (Q : VK), (∀ a, M a → H a ≠ none) → p sx sy = some s → SR Γ M H x sx Gx → SR Γ M H y sy Gy → Res Γ M H s Q → r x y H Q
inductive SRs (Γ : Gam) (M : Addr → Prop) (H : Hp) : List V → List (Sl Γ) → Prop
  | nil : SRs Γ M H [] []
  | cons {v : V} {vs : List V} {s : Sl Γ} {ss : List (Sl Γ)} {Gf : Addr → Prop} : SR Γ M H v s Gf → SRs Γ M H vs ss → SRs Γ M H (v :: vs) (s :: ss)
def PrimN (Γ : Gam) (r : List V → Hp → VK → Prop) (p : List (Sl Γ) → Option (Sl Γ)) : Prop := ∀ (M : Addr → Prop) (H : Hp) (xs : List V) (ss : List (Sl Γ)) (s : Sl Γ) (Q : VK), (∀ a, M a → H a ≠ none) → p ss = some s → SRs Γ M H xs ss → Res Γ M H s Q → r xs H Q
def m1 {Γ : Gam} (p : Sl Γ → Option (Sl Γ)) (a : AE Γ) : Ev Γ := fun env =>
  match evA a env with
  | none => none
  | some (x, env1) => match peek x env1 with
    | none => none
    | some sx => (p sx).map fun s => (s, env1)
def m2 {Γ : Gam} (p : Sl Γ → Sl Γ → Option (Sl Γ)) (a b : AE Γ) : Ev Γ := fun env =>
  match evA a env with
  | none => none
  | some (x, env1) => match evA b env1 with
    | none => none
    | some (y, env2) => match peek x env2, peek y env2 with
      | some sx, some sy => (p sx sy).map fun s => (s, env2)
      | _, _ => none
def evAs {Γ : Gam} : List (AE Γ) → Env Γ → Option (List (Ag Γ) × Env Γ)
  | [], env => some ([], env)
  | a :: as, env => match evA a env with
    | none => none
    | some (x, env1) => (evAs as env1).map fun p => (x :: p.1, p.2)
def peeks {Γ : Gam} : List (Ag Γ) → Env Γ → Option (List (Sl Γ))
  | [], _ => some []
  | a :: as, env => match peek a env, peeks as env with
    | some s, some ss => some (s :: ss)
    | _, _ => none
def mN {Γ : Gam} (p : List (Sl Γ) → Option (Sl Γ)) (as : List (AE Γ)) : Ev Γ := fun env =>
  match evAs as env with
  | none => none
  | some (xs, env1) => match peeks xs env1 with
    | none => none
    | some ss => (p ss).map fun s => (s, env1)
section
variable {Γ : Gam} {X : Cx} {w : Wd} {σ : St} {env env' : Env Γ} {a b : Expr} {fa fb : AE Γ} {Q : VK} {s : Sl Γ}
theorem run1 {r : V → Hp → VK → Prop} {p : Sl Γ → Option (Sl Γ)} (hp : Prim1 Γ r p) (ha : SdA Γ X a fa) (hK : Gd Γ X) (he : m1 p fa env = some (s, env')) (E : ER Γ w σ env)
    (k : ∀ v w' Fr, ER Γ w' σ env' → TR Γ w' v s Fr → Step w w' → Fresh w Fr → Q v w'.H) : wE X a σ w.H fun x H1 => r x H1 Q := by
  unfold m1 at he
  cases g1 : evA fa env with
  | none => rw [g1] at he; cases he
  | some q =>
    obtain ⟨x, env1⟩ := q
    rw [g1] at he
    cases g2 : peek x env1 with
    | none => simp only [g2] at he; cases he
    | some sx =>
      simp only [g2] at he
      cases g3 : p sx with
      | none => rw [g3] at he; cases he
      | some s1 =>
        rw [g3] at he
        cases he
        refine sda_run ha hK g1 E fun v w1 Fr E1 A1 p1 f1 => ?_
        obtain ⟨G1, r1⟩ := A1.peek E1 g2
        exact hp w1.M w1.H v sx s G1 Q E1.dom g3 r1 (res_of E1 fun v2 w2 Fr2 E2 T2 p2 f2 => k v2 w2 Fr2 E2 T2 (p1.trans p2 E.dom) (f2.back p1))
theorem run2 {r : R2} {p : Sl Γ → Sl Γ → Option (Sl Γ)} (hp : Prim2 Γ r p) (ha : SdA Γ X a fa) (hb : SdA Γ X b fb) (hK : Gd Γ X) (he : m2 p fa fb env = some (s, env')) (E : ER Γ w σ env)
    (k : ∀ v w' Fr, ER Γ w' σ env' → TR Γ w' v s Fr → Step w w' → Fresh w Fr → Q v w'.H) : wE X a σ w.H fun x H1 => wE X b σ H1 fun y H2 => r x y H2 Q := by
  unfold m2 at he
  cases g1 : evA fa env with
  | none => rw [g1] at he; cases he
  | some q =>
    obtain ⟨x, env1⟩ := q
    simp only [g1] at he
    cases g2 : evA fb env1 with
    | none => simp only [g2] at he; cases he
    | some q =>
      obtain ⟨y, env2⟩ := q
      simp only [g2] at he
      cases g3 : peek x env2 with
      | none => simp only [g3] at he; cases he
      | some sx =>
        cases g4 : peek y env2 with
        | none => simp only [g3, g4] at he; cases he
        | some sy =>
          simp only [g3, g4] at he
          cases g5 : p sx sy with
          | none => rw [g5] at he; cases he
          | some s1 =>
            rw [g5] at he
            cases he
            refine sda_run ha hK g1 E fun v w1 Fr E1 A1 p1 f1 => ?_
            refine sda_run hb hK g2 E1 fun u w2 Fr2 E2 A2 p2 f2 => ?_
            obtain ⟨G1, r1⟩ := (A1.step E1 p2).peek E2 g3
            obtain ⟨G2, r2⟩ := A2.peek E2 g4
            have p12 := p1.trans p2 E.dom
            exact hp w2.M w2.H v u sx sy s G1 G2 Q E2.dom g5 r1 r2 (res_of E2 fun v3 w3 Fr3 E3 T3 p3 f3 => k v3 w3 Fr3 E3 T3 (p12.trans p3 E.dom) (f3.back p12))
/-- several operands -/
inductive SdL (Γ : Gam) (X : Cx) : List Expr → List (AE Γ) → Prop
  | nil : SdL Γ X [] []
  | cons {e : Expr} {es : List Expr} {a : AE Γ} {as : List (AE Γ)} : SdA Γ X e a → NS X e → SdL Γ X es as → SdL Γ X (e :: es) (a :: as)
theorem SdL.ns : ∀ {es : List Expr} {as : List (AE Γ)}, SdL Γ X es as → ∀ e ∈ es, NS X e
  | _, _, .nil, _, h => nomatch h
  | _, _, .cons _ n r, e, h => by
    rcases List.mem_cons.mp h with z | z
    · subst z; exact n
    · exact SdL.ns r e z
/-- the operands' values, each with what it owns -/
inductive ARs (Γ : Gam) (w : Wd) (σ : St) : List V → List (Ag Γ) → List (Addr → Prop) → Prop
  | nil : ARs Γ w σ [] [] []
  | cons {v : V} {vs : List V} {a : Ag Γ} {as : List (Ag Γ)} {Fr : Addr → Prop} {Frs : List (Addr → Prop)} : AR Γ w σ v a Fr → (∀ G ∈ Frs, ∀ x, Fr x → ¬ G x) → ARs Γ w σ vs as Frs → ARs Γ w σ (v :: vs) (a :: as) (Fr :: Frs)
theorem ARs.step {w' : Wd} (E : ER Γ w σ env) (p : Step w w') : ∀ {vs : List V} {as : List (Ag Γ)} {Frs : List (Addr → Prop)}, ARs Γ w σ vs as Frs → ARs Γ w' σ vs as Frs
  | _, _, _, .nil => .nil
  | _, _, _, .cons h d r => .cons (h.step E p) d (ARs.step E p r)
theorem ARs.peeks (E : ER Γ w σ env) : ∀ {vs : List V} {as : List (Ag Γ)} {Frs : List (Addr → Prop)} {ss : List (Sl Γ)}, ARs Γ w σ vs as Frs → peeks as env = some ss → SRs Γ w.M w.H vs ss
  | _, _, _, _, .nil, h => by cases h; exact .nil
  | _, _, _, _, .cons (a := a) (as := as) h d r, e => by
    unfold G.peeks at e
    cases g1 : peek a env with
    | none => simp only [g1] at e; cases e
    | some s =>
      cases g2 : G.peeks as env with
      | none => simp only [g1, g2] at e; cases e
      | some ss =>
        simp only [g1, g2] at e
        cases e
        obtain ⟨G1, r1⟩ := h.peek E g1
        exact .cons r1 (ARs.peeks E r g2)
theorem ARs.fresh {w0 : Wd} : ∀ {vs : List V} {as : List (Ag Γ)} {Frs : List (Addr → Prop)}, ARs Γ w σ vs as Frs → (∀ G ∈ Frs, Fresh w0 G) → True
  | _, _, _, _, _ => trivial
theorem AR.here {v : V} {a : Ag Γ} {Fr : Addr → Prop} (E : ER Γ w σ env) (h : AR Γ w σ v a Fr) : ∀ x, Fr x → w.H x ≠ none ∧ ∀ i, ¬ w.F i x := fun x f => by
  cases a with
  | brw i => exact absurd f (h.2 x)
  | val s => exact ⟨E.dom x (h.sub x f), fun i => h.off x i f⟩
theorem sdl_run (hK : Gd Γ X) : ∀ {es : List Expr} {as : List (AE Γ)} {xs : List (Ag Γ)} {env env' : Env Γ} {w : Wd} {Q : List V → Hp → Prop}, SdL Γ X es as → evAs as env = some (xs, env') → ER Γ w σ env →
    (∀ vs w' Frs, ER Γ w' σ env' → ARs Γ w' σ vs xs Frs → Step w w' → (∀ G ∈ Frs, Fresh w G) → Q vs w'.H) → wL X es σ w.H Q
  | _, _, _, _, _, w, _, .nil, he, E, k => by
    cases he
    exact k [] w [] E .nil (Step.refl w) (fun _ h => nomatch h)
  | _, _, _, env, _, w, Q, .cons (e := e) (es := es) (a := a) (as := as) h1 n h2, he, E, k => by
    unfold evAs at he
    cases g1 : evA a env with
    | none => simp only [g1] at he; cases he
    | some q =>
      obtain ⟨x, env1⟩ := q
      simp only [g1] at he
      cases g2 : evAs as env1 with
      | none => simp only [g2] at he; cases he
      | some q =>
        obtain ⟨xs1, env2⟩ := q
        simp only [g2, Option.map_some] at he
        cases he
        show wE X e σ w.H fun v H1 => wL X es σ H1 fun vs H2 => Q (v :: vs) H2
        refine sda_run h1 hK g1 E fun v w1 Fr E1 A1 p1 f1 => ?_
        refine sdl_run hK h2 g2 E1 fun vs w2 Frs E2 A2 p2 f2 => ?_
        refine k (v :: vs) w2 (Fr :: Frs) E2 (.cons (A1.step E1 p2) (fun G hG x hx gx => ?_) A2) (p1.trans p2 E.dom) (fun G hG => ?_)
        · obtain ⟨q1, q2⟩ := A1.here E1 x hx
          rcases f2 G hG x gx with ⟨i, z⟩ | z
          · exact q2 i z
          · exact q1 z
        · rcases List.mem_cons.mp hG with z | z
          · subst z; exact f1
          · exact (f2 G z).back p1
theorem runN {r : List V → Hp → VK → Prop} {p : List (Sl Γ) → Option (Sl Γ)} {es : List Expr} {as : List (AE Γ)} (hp : PrimN Γ r p) (ha : SdL Γ X es as) (hK : Gd Γ X) (he : mN p as env = some (s, env')) (E : ER Γ w σ env)
    (k : ∀ v w' Fr, ER Γ w' σ env' → TR Γ w' v s Fr → Step w w' → Fresh w Fr → Q v w'.H) : wL X es σ w.H fun vs H1 => r vs H1 Q := by
  unfold mN at he
  cases g1 : evAs as env with
  | none => simp only [g1] at he; cases he
  | some q =>
    obtain ⟨xs, env1⟩ := q
    simp only [g1] at he
    cases g2 : peeks xs env1 with
    | none => simp only [g2] at he; cases he
    | some ss =>
      simp only [g2] at he
      cases g3 : p ss with
      | none => rw [g3] at he; cases he
      | some s1 =>
        rw [g3] at he
        cases he
        refine sdl_run hK ha g1 E fun vs w1 Frs E1 A1 p1 f1 => ?_
        exact hp w1.M w1.H vs ss s Q E1.dom g3 (A1.peeks E1 g2) (res_of E1 fun v2 w2 Fr2 E2 T2 p2 f2 => k v2 w2 Fr2 E2 T2 (p1.trans p2 E.dom) (f2.back p1))
end
end G

/-! G2: operations on values -/
namespace G
open PySem L2

mutual
def D.toPy : D → PyData
  | .non => .none
  | .bl b => .bool b
  | .int i => .int i
  | .str s => .str s
  | .tup xs => .tuple (D.toPys xs)
  | .lst xs => .list (D.toPys xs)
  | .ins _ _ => .dict []
  | .odd => .dict []
def D.toPys : List D → List PyData
  | [] => []
  | x :: xs => D.toPy x :: D.toPys xs
end
mutual
theorem Dat.dp {Γ : Gam} {M : Addr → Prop} {H : Hp} : ∀ {v : V} {d : D}, Dat Γ M H v d → d.toPy.canLay0 = true → Dp Γ.K H v d.toPy
  | _, _, .non, _ => by unfold D.toPy; exact .non
  | _, _, .bl b, _ => by unfold D.toPy; exact .bl b
  | _, _, .int i, _ => by unfold D.toPy; exact .int i
  | _, _, .str x, _ => by unfold D.toPy; exact .str x
  | _, _, .tup h r, c => by
    unfold D.toPy at c ⊢
    exact .tup h.sq (Dats.dp r (by unfold PyData.canLay0 at c; exact c))
  | _, _, .lst n h r, c => by
    unfold D.toPy at c ⊢
    exact .lst (SqL.of h) (Dats.dp r (by unfold PyData.canLay0 at c; exact c))
  | _, _, .ins e n h l r, c => by unfold D.toPy at c; unfold PyData.canLay0 at c; cases c
  | _, _, .odd n h, c => by unfold D.toPy at c; unfold PyData.canLay0 at c; cases c
theorem Dats.dp {Γ : Gam} {M : Addr → Prop} {H : Hp} : ∀ {vs : List V} {ds : List D}, Dats Γ M H vs ds → PyData.canLayAll0 (D.toPys ds) = true → DpAll Γ.K H vs (D.toPys ds)
  | _, _, .nil, _ => by unfold D.toPys; exact .nil
  | _, _, .cons h r, c => by
    unfold D.toPys at c ⊢
    unfold PyData.canLayAll0 at c
    rw [Bool.and_eq_true] at c
    exact .cons (h.dp c.1) (Dats.dp r c.2)
end
theorem toPys_map : ∀ xs : List D, D.toPys xs = xs.map D.toPy
  | [] => by unfold D.toPys; rfl
  | x :: xs => by unfold D.toPys; rw [toPys_map xs]; rfl

/-- the data that is read there now -/
def Sl.view {Γ : Gam} : Sl Γ → Option D
  | .dat d => some d
  | .lst ds => some (.lst ds)
  | .scr ns => some (.lst (ns.map D.int))
  | _ => Option.none
theorem dats_ints {Γ : Gam} {M : Addr → Prop} {H : Hp} : ∀ ns : List Int, Dats Γ M H (ns.map V.int) (ns.map D.int)
  | [] => .nil
  | n :: ns => .cons (.int n) (dats_ints ns)
section
variable {Γ : Gam} {X : Cx} {M : Addr → Prop} {H : Hp} {v x y : V} {s sx sy : Sl Γ} {G' Gx Gy : Addr → Prop} {d : D} {ds : List D}
/-- a list, a tuple as it is read now -/
theorem SR.list (h : SR Γ M H v s G') (e : s.view = some (.lst ds)) : ∃ p vs, v = .ref p ∧ SqL Γ.K H p vs ∧ Dats Γ M H vs ds := by
  cases s with
  | dat d =>
    cases e
    cases h.1 with
    | lst n hp r => exact ⟨_, _, rfl, SqL.of hp, r⟩
  | lst es => cases e; obtain ⟨p, vs, e, hp, r, n⟩ := h; exact ⟨p, vs, e, SqL.of hp, r⟩
  | scr ns => cases e; obtain ⟨⟨a, e, h⟩, n⟩ := h; exact ⟨a, _, e, h.sq, dats_ints ns⟩
  | _ => cases e
theorem SR.tuple (h : SR Γ M H v s G') (e : s.view = some (.tup ds)) : ∃ p vs, v = .ref p ∧ TupM Γ.K M H p vs ∧ Dats Γ M H vs ds := by
  cases s with
  | dat d =>
    cases e
    cases h.1 with
    | tup hp r => exact ⟨_, _, rfl, hp, r⟩
  | lst es => cases e
  | scr ns => cases e
  | _ => cases e
theorem SR.dp (h : SR Γ M H v s G') (e : s.view = some d) (c : d.toPy.canLay0 = true) : Dp Γ.K H v d.toPy := by
  cases s with
  | dat d => cases e; exact h.1.dp c
  | lst es =>
    cases e
    obtain ⟨p, vs, rfl, hq, r⟩ := h.list (ds := es) rfl
    unfold D.toPy at c ⊢
    exact .lst hq (r.dp (by unfold PyData.canLay0 at c; exact c))
  | scr ns =>
    cases e
    obtain ⟨p, vs, rfl, hq, r⟩ := h.list (ds := ns.map D.int) rfl
    unfold D.toPy at c ⊢
    exact .lst hq (r.dp (by unfold PyData.canLay0 at c; exact c))
  | _ => cases e
theorem SR.scal (h : SR Γ M H v s G') : (∀ i, s.view = some (.int i) → v = .int i) ∧ (∀ b, s.view = some (.bl b) → v = .bl b) ∧ (∀ t, s.view = some (.str t) → v = .str t) ∧ (s.view = some .non → v = .non) := by
  cases s with
  | dat d =>
    refine ⟨fun i e => ?_, fun i e => ?_, fun i e => ?_, fun e => ?_⟩ <;> (cases e; cases h.1; rfl)
  | lst es => exact ⟨fun _ e => (nomatch e), fun _ e => (nomatch e), fun _ e => (nomatch e), fun e => (nomatch e)⟩
  | scr ns => exact ⟨fun _ e => (nomatch e), fun _ e => (nomatch e), fun _ e => (nomatch e), fun e => (nomatch e)⟩
  | _ => exact ⟨fun _ e => (nomatch e), fun _ e => (nomatch e), fun _ e => (nomatch e), fun e => (nomatch e)⟩
theorem SR.int {i : Int} (h : SR Γ M H v s G') (e : s.view = some (.int i)) : v = .int i := h.scal.1 i e
theorem SR.bl {b : Bool} (h : SR Γ M H v s G') (e : s.view = some (.bl b)) : v = .bl b := h.scal.2.1 b e
theorem SR.str {t : Str} (h : SR Γ M H v s G') (e : s.view = some (.str t)) : v = .str t := h.scal.2.2.1 t e
theorem SR.non (h : SR Γ M H v s G') (e : s.view = some .non) : v = .non := h.scal.2.2.2 e
end

/-! ### results -/
def di {Γ : Gam} (i : Int) : Sl Γ := .dat (.int i)
def db {Γ : Gam} (b : Bool) : Sl Γ := .dat (.bl b)
def ds {Γ : Gam} (t : Str) : Sl Γ := .dat (.str t)

/-! ### ints and +, - .. -/
def pAdd {Γ : Gam} (x y : Sl Γ) : Option (Sl Γ) :=
  match x.view, y.view with
  | some (.int i), some (.int j) => some (di (i + j))
  | some (.str a), some (.str b) => if a.length + b.length ≤ sizeLine then some (ds (a ++ b)) else none
  | some (.tup a), some (.tup b) => if a.length + b.length ≤ sizeLine then some (.dat (.tup (a ++ b))) else none
  | some (.lst a), some (.lst b) => match x, y with
    | .scr _, _ => none
    | _, .scr _ => none
    | _, _ => if a.length + b.length ≤ sizeLine then some (.lst (a ++ b)) else none
  | _, _ => none
def rAddAll (K : PySem.W.Frag) : R2 := fun x y H Q => rI0 (fun i j => V.int (i + j)) x y H Q ∨ ((∃ i j, x = V.str i ∧ y = V.str j ∧ i.length + j.length ≤ sizeLine ∧ Q (.str (i ++ j)) H) ∨ (rCatA K x y H Q ∨ rCat x y H Q))
theorem op_addAll {X : Cx} : OpR X (binaryOp .Add) (rAddAll X.K) := OpR.or op_add (OpR.or op_add_str (OpR.or op_catA op_cat))
theorem SR.lstW {Γ : Gam} {M : Addr → Prop} {H : Hp} {v : V} {s : Sl Γ} {G' : Addr → Prop} {ds : List D} (h : SR Γ M H v s G') (e : s.view = some (.lst ds)) (n : ∀ ns, s ≠ .scr ns) : ∃ p vs, v = .ref p ∧ H p = some (.lst vs) ∧ Dats Γ M H vs ds := by
  cases s with
  | dat d =>
    cases e
    cases h.1 with
    | lst n hp r => exact ⟨_, _, rfl, hp, r⟩
  | lst es => cases e; obtain ⟨p, vs, e, hp, r, n⟩ := h; exact ⟨p, vs, e, hp, r⟩
  | scr ns => exact absurd rfl (n ns)
  | _ => cases e
theorem pAdd_ok {Γ : Gam} : Prim2 Γ (rAddAll Γ.K) pAdd := by
  intro M H x y sx sy s Gx Gy Q dom hp hx hy k
  unfold pAdd at hp
  split at hp
  · rename_i i j e1 e2
    cases hp
    cases hx.int e1; cases hy.int e2
    exact .inl ⟨i, j, rfl, rfl, k.dat (.int _)⟩
  · rename_i a b e1 e2
    split at hp
    · rename_i hl
      cases hp
      cases hx.str e1; cases hy.str e2
      exact .inr (.inl ⟨a, b, rfl, rfl, hl, k.dat (.str _)⟩)
    · cases hp
  · rename_i a b e1 e2
    split at hp
    · rename_i hl
      cases hp
      obtain ⟨p, vs, rfl, hp, r⟩ := hx.tuple e1
      obtain ⟨q, ws, rfl, hq, r'⟩ := hy.tuple e2
      refine .inr (.inr (.inl ⟨p, q, vs, ws, rfl, rfl, hp.sq, hq.sq, by rw [r.length, r'.length]; exact hl, fun e => ?_, fun _ e => ?_, fun _ _ l hl => k.tup dom (r.append r') hl⟩))
      · subst e; cases r; exact k.dat (.tup hq r')
      · subst e; cases r'; rw [List.append_nil] at k; exact k.dat (.tup hp r)
    · cases hp
  · rename_i a b e1 e2
    split at hp
    · cases hp
    · cases hp
    · rename_i n1 n2
      split at hp
      · rename_i hl
        cases hp
        obtain ⟨p, vs, rfl, hp, r⟩ := hx.lstW e1 (fun ns z => n1 ns z)
        obtain ⟨q, ws, rfl, hq, r'⟩ := hy.lstW e2 (fun ns z => n2 ns z)
        exact .inr (.inr (.inr ⟨p, q, vs, ws, rfl, rfl, hp, hq, by rw [r.length, r'.length]; exact hl, fun l hl => k.lst (r.append r') hl⟩))
      · cases hp
  · cases hp
/-- an operation on two ints under a condition -/
def pI {Γ : Gam} (C : Int → Int → Prop) [∀ i j, Decidable (C i j)] (g : Int → Int → D) (x y : Sl Γ) : Option (Sl Γ) :=
  match x.view, y.view with
  | some (.int i), some (.int j) => if C i j then some (.dat (g i j)) else none
  | _, _ => none
theorem pI_ok {Γ : Gam} {C C' : Int → Int → Prop} [∀ i j, Decidable (C i j)] {g : Int → Int → D} {g' : Int → Int → V} (hc : ∀ i j, C i j → C' i j) (hg : ∀ M H i j, C i j → Dat Γ M H (g' i j) (g i j)) : Prim2 Γ (rI C' g') (pI C g) := by
  intro M H x y sx sy s Gx Gy Q dom hp hx hy k
  unfold pI at hp
  split at hp
  · rename_i i j e1 e2
    split at hp
    · rename_i c
      cases hp
      cases hx.int e1; cases hy.int e2
      exact ⟨i, j, rfl, rfl, hc i j c, k.dat (hg M H i j c)⟩
    · cases hp
  · cases hp
def p0 {Γ : Gam} (g : Int → Int → D) (x y : Sl Γ) : Option (Sl Γ) :=
  match x.view, y.view with
  | some (.int i), some (.int j) => some (.dat (g i j))
  | _, _ => none
theorem p0_ok {Γ : Gam} {g : Int → Int → D} {g' : Int → Int → V} (hg : ∀ M H i j, Dat Γ M H (g' i j) (g i j)) : Prim2 Γ (rI0 g') (p0 g) := by
  intro M H x y sx sy s Gx Gy Q dom hp hx hy k
  unfold p0 at hp
  split at hp
  · rename_i i j e1 e2
    cases hp
    cases hx.int e1; cases hy.int e2
    exact ⟨i, j, rfl, rfl, k.dat (hg M H i j)⟩
  · cases hp
def pSub {Γ : Gam} : Sl Γ → Sl Γ → Option (Sl Γ) := p0 fun i j => .int (i - j)
theorem pSub_ok {Γ : Gam} : Prim2 Γ (rI0 fun i j => .int (i - j)) (pSub (Γ := Γ)) := p0_ok fun _ _ _ _ => .int _
def cMul (i j : Int) : Prop := i.natAbs < 2 ^ 64 ∨ j.natAbs < 2 ^ 64
instance (i j : Int) : Decidable (cMul i j) := by unfold cMul; infer_instance
theorem cMul_ok (i j : Int) (h : cMul i j) : CMul i j := by
  unfold cMul at h
  unfold CMul
  omega
def pMul {Γ : Gam} : Sl Γ → Sl Γ → Option (Sl Γ) := pI cMul fun i j => .int (i * j)
theorem pMul_ok {Γ : Gam} : Prim2 Γ (rI CMul fun i j => .int (i * j)) (pMul (Γ := Γ)) := pI_ok cMul_ok fun _ _ _ _ _ => .int _
def cDiv (_ j : Int) : Prop := 0 < j ∧ j < 2 ^ 200
instance (i j : Int) : Decidable (cDiv i j) := by unfold cDiv; infer_instance
def pDiv {Γ : Gam} : Sl Γ → Sl Γ → Option (Sl Γ) := pI cDiv fun i j => .int (i / j)
theorem pDiv_ok {Γ : Gam} : Prim2 Γ (rI CDivW fun i j => .int (i / j)) (pDiv (Γ := Γ)) := pI_ok (fun i j h => wide_div (b := 200) h.1 (by have h1 := h.1; have h2 := h.2; omega) (by decide) (by decide)) fun _ _ _ _ _ => .int _
def cMod (_ j : Int) : Prop := 0 < j
instance (i j : Int) : Decidable (cMod i j) := by unfold cMod; infer_instance
def pMod {Γ : Gam} : Sl Γ → Sl Γ → Option (Sl Γ) := pI cMod fun i j => .int (i % j)
theorem pMod_ok {Γ : Gam} : Prim2 Γ (rI (fun _ j => 0 < j) fun i j => .int (i % j)) (pMod (Γ := Γ)) := pI_ok (fun i j h => h) fun _ _ _ _ _ => .int _
def cPow (i j : Int) : Prop := 0 ≤ j ∧ j ≤ 1000 ∧ i.natAbs < 2 ^ 64
instance (i j : Int) : Decidable (cPow i j) := by unfold cPow; infer_instance
def pPow {Γ : Gam} : Sl Γ → Sl Γ → Option (Sl Γ) := pI cPow fun i j => .int (i ^ j.toNat)
theorem pPow_ok {Γ : Gam} : Prim2 Γ (rI CPow fun i j => .int (i ^ j.toNat)) (pPow (Γ := Γ)) := pI_ok (fun i j h => ⟨h.1, Int.le_trans h.2.1 (by decide), h.2.2⟩) fun _ _ _ _ _ => .int _
def pNeg {Γ : Gam} (x : Sl Γ) : Option (Sl Γ) :=
  match x.view with
  | some (.int i) => some (di (-i))
  | _ => none
theorem pNeg_ok {Γ : Gam} : Prim1 Γ (rU fun i => .int (-i)) (pNeg (Γ := Γ)) := by
  intro M H x sx s Gx Q dom hp hx k
  unfold pNeg at hp
  split at hp
  · rename_i i e1
    cases hp
    cases hx.int e1
    exact ⟨i, rfl, k.dat (.int _)⟩
  · cases hp

/-! ### comparisons -/
def okD (d : D) : Bool := SeqAt.shaped d.toPy
def eqD (a b : D) : Bool := PyData.eqv a.toPy b.toPy
def pEqG {Γ : Gam} (g : Bool → Bool) (x y : Sl Γ) : Option (Sl Γ) :=
  match x.view, y.view with
  | some a, some b => if okD a && okD b then some (db (g (eqD a b))) else none
  | _, _ => none
theorem pEqG_ok {Γ : Gam} {g : Bool → Bool} {r : R2} (h : ∀ x y H Q d e, Dp Γ.K H x d → Dp Γ.K H y e → SeqAt.shaped d = true → SeqAt.shaped e = true → Q (V.bl (g (PyData.eqv d e))) H → r x y H Q) : Prim2 Γ r (pEqG g) := by
  intro M H x y sx sy s Gx Gy Q dom hp hx hy k
  unfold pEqG at hp
  split at hp
  · rename_i a b e1 e2
    split at hp
    · rename_i c
      cases hp
      rw [Bool.and_eq_true] at c
      exact h x y H Q a.toPy b.toPy (hx.dp e1 (SeqAt.canLay_of_shaped c.1)) (hy.dp e2 (SeqAt.canLay_of_shaped c.2)) c.1 c.2 (k.dat (.bl _))
    · cases hp
  · cases hp
def pEq {Γ : Gam} : Sl Γ → Sl Γ → Option (Sl Γ) := pEqG id
def pNe {Γ : Gam} : Sl Γ → Sl Γ → Option (Sl Γ) := pEqG not
theorem pEq_ok {Γ : Gam} : Prim2 Γ (rEqD Γ.K) (pEq (Γ := Γ)) := pEqG_ok fun x y H Q d e h1 h2 h3 h4 q => ⟨d, e, h1, h2, h3, h4, q⟩
theorem pNe_ok {Γ : Gam} : Prim2 Γ (rNeD Γ.K) (pNe (Γ := Γ)) := pEqG_ok fun x y H Q d e h1 h2 h3 h4 q => ⟨d, e, h1, h2, h3, h4, q⟩
/-- order of ints and of texts -/
def pOrd {Γ : Gam} (g : Int → Int → Bool) (t : Str → Str → Bool) (x y : Sl Γ) : Option (Sl Γ) :=
  match x.view, y.view with
  | some (.int i), some (.int j) => some (db (g i j))
  | some (.str a), some (.str b) => some (db (t a b))
  | _, _ => none
def rOrd (g : Int → Int → Bool) (t : Str → Str → Bool) : R2 := fun x y H Q => rI0 (fun i j => V.bl (g i j)) x y H Q ∨ ∃ i j, x = V.str i ∧ y = V.str j ∧ Q (V.bl (t i j)) H
theorem pOrd_ok {Γ : Gam} {g : Int → Int → Bool} {t : Str → Str → Bool} : Prim2 Γ (rOrd g t) (pOrd g t) := by
  intro M H x y sx sy s Gx Gy Q dom hp hx hy k
  unfold pOrd at hp
  split at hp
  · rename_i i j e1 e2
    cases hp
    cases hx.int e1; cases hy.int e2
    exact .inl ⟨i, j, rfl, rfl, k.dat (.bl _)⟩
  · rename_i i j e1 e2
    cases hp
    cases hx.str e1; cases hy.str e2
    exact .inr ⟨i, j, rfl, rfl, k.dat (.bl _)⟩
  · cases hp
def sLt (a b : Str) : Bool := decide (a.cps.toList < b.cps.toList)
def pLt {Γ : Gam} : Sl Γ → Sl Γ → Option (Sl Γ) := pOrd (fun i j => decide (i < j)) sLt
def pLe {Γ : Gam} : Sl Γ → Sl Γ → Option (Sl Γ) := pOrd (fun i j => decide (i ≤ j)) fun a b => !sLt b a
def pGt {Γ : Gam} : Sl Γ → Sl Γ → Option (Sl Γ) := pOrd (fun i j => decide (j < i)) fun a b => sLt b a
def pGe {Γ : Gam} : Sl Γ → Sl Γ → Option (Sl Γ) := pOrd (fun i j => decide (j ≤ i)) fun a b => !sLt a b
theorem op_ltO {X : Cx} : OpR X (compareOp .Lt) (rOrd (fun i j => decide (i < j)) sLt) := OpR.or op_lt op_lt_str
theorem op_leO {X : Cx} : OpR X (compareOp .LtE) (rOrd (fun i j => decide (i ≤ j)) fun a b => !sLt b a) := OpR.or op_le op_le_str
theorem op_gtO {X : Cx} : OpR X (compareOp .Gt) (rOrd (fun i j => decide (j < i)) fun a b => sLt b a) := OpR.or op_gt op_gt_str
theorem op_geO {X : Cx} : OpR X (compareOp .GtE) (rOrd (fun i j => decide (j ≤ i)) fun a b => !sLt a b) := OpR.or op_ge op_ge_str
end G

/-! G3: in, is, subscripts, slices, built-ins -/
namespace G
open PySem L2

/-! ### in, not in -/
def isFlat : D → Bool
  | .non => true
  | .bl _ => true
  | .int _ => true
  | .str _ => true
  | _ => false
theorem Dat.flat {Γ : Gam} {M : Addr → Prop} {H : Hp} {v : V} {d : D} (h : Dat Γ M H v d) (f : isFlat d = true) : flatV v = true := by
  cases h <;> first | rfl | cases f
theorem eqV_eq {Γ : Gam} {M : Addr → Prop} {H : Hp} {v w : V} {d e : D} (h : Dat Γ M H v d) (h' : Dat Γ M H w e) (f : isFlat d = true) (f' : isFlat e = true) : eqV v w = eqD d e := by
  cases h <;> first | exact absurd f Bool.false_ne_true | skip
  all_goals (cases h' <;> first | exact absurd f' Bool.false_ne_true | (simp only [eqD, D.toPy, PyData.eqv, eqV]))
theorem Dats.flat {Γ : Gam} {M : Addr → Prop} {H : Hp} {v : V} {d : D} (h : Dat Γ M H v d) (f : isFlat d = true) : ∀ {vs : List V} {ds : List D}, Dats Γ M H vs ds → ds.all isFlat = true → vs.all flatV = true ∧ inV v vs = ds.any fun z => eqD z d
  | _, _, .nil, _ => ⟨rfl, rfl⟩
  | _, _, .cons q r, a => by
    rw [List.all_cons, Bool.and_eq_true] at a
    obtain ⟨i1, i2⟩ := Dats.flat h f r a.2
    refine ⟨by rw [List.all_cons, q.flat a.1, i1]; rfl, ?_⟩
    unfold inV at i2 ⊢
    rw [List.any_cons, List.any_cons, i2, eqV_eq q h a.1 f]
/-- one text within another -/
def sIn (a b : Str) : Bool :=
  match a.cps.toList with
  | [c] => decide (c ∈ b.cps.toList)
  | _ => !(Builtin.Str.occurrences b a 0 b.length 1).isEmpty
def pInG {Γ : Gam} (g : Bool → Bool) (x y : Sl Γ) : Option (Sl Γ) :=
  match x.view, y.view with
  | some a, some (.lst ds) => if okD a && okD (.lst ds) then some (db (g (ds.any fun z => eqD z a))) else none
  | some a, some (.tup ds) => if isFlat a && ds.all isFlat then some (db (g (ds.any fun z => eqD z a))) else none
  | some (.str a), some (.str b) => some (db (g (sIn a b)))
  | _, _ => none
def rInAll (K : PySem.W.Frag) (rD rF rC rS : R2) : R2 := fun x y H Q => rD x y H Q ∨ (rF x y H Q ∨ (rC x y H Q ∨ rS x y H Q))
def rCin (g : Bool → Bool) : R2 := fun x y H Q => ∃ (c : Nat) (z : Str), x = .str ⟨#[c]⟩ ∧ y = .str z ∧ Q (.bl (g (decide (c ∈ z.cps.toList)))) H
def rSin (g : Bool → Bool) : R2 := fun x y H Q => ∃ i j, x = V.str i ∧ y = V.str j ∧ Q (.bl (g (!(Builtin.Str.occurrences j i 0 j.length 1).isEmpty))) H
theorem toPys_any (ds : List D) (a : D) : (ds.any fun z => eqD z a) = (D.toPys ds).any fun z => PyData.eqv z a.toPy := by
  rw [toPys_map, List.any_map]
  rfl
theorem Sl.str_view {Γ : Gam} {M : Addr → Prop} {H : Hp} {v : V} {s : Sl Γ} {G' : Addr → Prop} {d : D} (h : SR Γ M H v s G') (e : s.view = some d) (f : isFlat d = true) : Dat Γ M H v d := by
  cases s with
  | dat d' => cases e; exact h.1
  | lst es => cases e; cases f
  | scr ns => cases e; cases f
  | _ => cases e
theorem pInG_ok {Γ : Gam} {g : Bool → Bool} {rD : R2} {neg : Bool} (hD : ∀ x y H Q d ds, Dp Γ.K H x d → Dp Γ.K H y (.list ds) → SeqAt.shaped d = true → SeqAt.shaped (.list ds) = true → Q (V.bl (g (ds.any fun z => PyData.eqv z d))) H → rD x y H Q)
    (hF : ∀ b, g b = if neg then !b else b) : Prim2 Γ (rInAll Γ.K rD (rIn Γ.K neg) (rCin g) (rSin g)) (pInG g) := by
  intro M H x y sx sy s Gx Gy Q dom hp hx hy k
  unfold pInG at hp
  split at hp
  · rename_i a ds e1 e2
    split at hp
    · rename_i c
      cases hp
      rw [Bool.and_eq_true] at c
      have h2 := hy.dp e2 (SeqAt.canLay_of_shaped c.2)
      have c2 := c.2
      unfold okD at c2
      unfold D.toPy at h2 c2
      refine .inl (hD x y H Q a.toPy (D.toPys ds) (hx.dp e1 (SeqAt.canLay_of_shaped c.1)) h2 c.1 c2 ?_)
      rw [← toPys_any]
      exact k.dat (.bl _)
    · cases hp
  · rename_i a ds e1 e2
    split at hp
    · rename_i c
      cases hp
      rw [Bool.and_eq_true] at c
      obtain ⟨p, vs, rfl, hq, r⟩ := hy.tuple e2
      have hd := Sl.str_view hx e1 c.1
      obtain ⟨f1, f2⟩ := Dats.flat hd c.1 r c.2
      refine .inr (.inl ⟨p, vs, rfl, .inr hq.sq, hd.flat c.1, f1, ?_⟩)
      rw [f2, ← hF]
      exact k.dat (.bl _)
    · cases hp
  · rename_i a b e1 e2
    cases hp
    cases hx.str e1; cases hy.str e2
    unfold sIn at k
    split at k
    · rename_i c ec
      have ea : a = ⟨#[c]⟩ := by
        cases a with
        | mk cs =>
          cases cs with
          | mk l => cases ec; rfl
      subst ea
      exact .inr (.inr (.inl ⟨c, b, rfl, rfl, k.dat (.bl _)⟩))
    · exact .inr (.inr (.inr ⟨a, b, rfl, rfl, k.dat (.bl _)⟩))
  · cases hp
def pIn {Γ : Gam} : Sl Γ → Sl Γ → Option (Sl Γ) := pInG id
def pNotIn {Γ : Gam} : Sl Γ → Sl Γ → Option (Sl Γ) := pInG not
theorem pIn_ok {Γ : Gam} : Prim2 Γ (rInAll Γ.K (rInD Γ.K) (rIn Γ.K false) (rCin id) (rSin id)) (pIn (Γ := Γ)) := pInG_ok (fun x y H Q d ds h1 h2 h3 h4 q => ⟨d, ds, h1, h2, h3, h4, q⟩) fun b => rfl
theorem pNotIn_ok {Γ : Gam} : Prim2 Γ (rInAll Γ.K (rNotInD Γ.K) (rIn Γ.K true) (rCin not) (rSin not)) (pNotIn (Γ := Γ)) := pInG_ok (fun x y H Q d ds h1 h2 h3 h4 q => ⟨d, ds, h1, h2, h3, h4, q⟩) fun b => rfl
theorem op_inAll {X : Cx} (hu : X.A.units + 65 < cLine) : OpR X (compareOp .In) (rInAll X.K (rInD X.K) (rIn X.K false) (rCin id) (rSin id)) := OpR.or (op_inD hu) (OpR.or op_in_seq (OpR.or op_in_sign op_in_str))
theorem op_notInAll {X : Cx} (hu : X.A.units + 65 < cLine) : OpR X (compareOp .NotIn) (rInAll X.K (rNotInD X.K) (rIn X.K true) (rCin not) (rSin not)) := OpR.or (op_notInD hu) (OpR.or op_notIn_seq (OpR.or op_notIn_sign op_notin_str))

/-! ### is, is not: None, True, False -/
def D.isNon : D → Bool
  | .non => true
  | _ => false
theorem Dat.non_iff {Γ : Gam} {M : Addr → Prop} {H : Hp} {v : V} {d : D} (h : Dat Γ M H v d) : decide (v = .non) = d.isNon := by
  cases h <;> rfl
def pIsG {Γ : Gam} (g : Bool → Bool) (x y : Sl Γ) : Option (Sl Γ) :=
  match x, y with
  | .dat a, .dat .non => some (db (g a.isNon))
  | .dat (.bl a), .dat (.bl b) => some (db (g (decide (a = b))))
  | _, _ => none
def rIsG (g : Bool → Bool) : R2 := fun x y H Q => (y = .non ∧ Q (.bl (g (decide (x = .non)))) H) ∨ ∃ a b : Bool, x = .bl a ∧ y = .bl b ∧ Q (.bl (g (decide (a = b)))) H
theorem pIsG_ok {Γ : Gam} {g : Bool → Bool} : Prim2 Γ (rIsG g) (pIsG (Γ := Γ) g) := by
  intro M H x y sx sy s Gx Gy Q dom hp hx hy k
  unfold pIsG at hp
  split at hp
  · rename_i a
    cases hp
    cases hy.non rfl
    refine .inl ⟨rfl, ?_⟩
    rw [hx.1.non_iff]
    exact k.dat (.bl _)
  · rename_i a b
    cases hp
    cases hx.bl rfl; cases hy.bl rfl
    exact .inr ⟨a, b, rfl, rfl, k.dat (.bl _)⟩
  · cases hp
def pIs {Γ : Gam} : Sl Γ → Sl Γ → Option (Sl Γ) := pIsG id
def pIsNot {Γ : Gam} : Sl Γ → Sl Γ → Option (Sl Γ) := pIsG not
theorem op_isAll {X : Cx} : OpR X (compareOp .Is) (rIsG id) := OpR.or op_isN op_isBl
theorem op_isNotAll {X : Cx} : OpR X (compareOp .IsNot) (rIsG not) := OpR.or op_notN op_notBl

/-! ### x[i] -/
theorem Dats.atI {Γ : Gam} {M : Addr → Prop} {H : Hp} {vs : List V} {ds : List D} {i : Int} {d : D} (r : Dats Γ M H vs ds) (h : atI ds i = some d) : ∃ v, L2.atI vs i = some v ∧ Dat Γ M H v d := by
  unfold L2.atI at h ⊢
  rw [r.length]
  cases e : ixN ds.length i with
  | none => rw [e] at h; cases h
  | some j =>
    rw [e] at h
    exact r.get h
def pIx {Γ : Gam} (x y : Sl Γ) : Option (Sl Γ) :=
  match x.view, y.view with
  | some (.lst ds), some (.int i) => (atI ds i).map .dat
  | some (.tup ds), some (.int i) => (atI ds i).map .dat
  | some (.str z), some (.int i) => if z.length ≤ sizeLine then (atI z.cps.toList i).map fun c => .dat (.str ⟨#[c]⟩) else none
  | _, _ => none
theorem pIx_ok {Γ : Gam} : Prim2 Γ (rIx Γ.K) (pIx (Γ := Γ)) := by
  intro M H x y sx sy s Gx Gy Q dom hp hx hy k
  unfold pIx at hp
  split at hp
  · rename_i ds i e1 e2
    cases e : atI ds i with
    | none => rw [e] at hp; cases hp
    | some d =>
      rw [e] at hp
      cases hp
      cases hy.int e2
      obtain ⟨p, vs, rfl, hq, r⟩ := hx.list e1
      obtain ⟨v, h1, h2⟩ := r.atI e
      exact .inl ⟨p, vs, i, v, rfl, rfl, hq, h1, k.dat h2⟩
  · rename_i ds i e1 e2
    cases e : atI ds i with
    | none => rw [e] at hp; cases hp
    | some d =>
      rw [e] at hp
      cases hp
      cases hy.int e2
      obtain ⟨p, vs, rfl, hq, r⟩ := hx.tuple e1
      obtain ⟨v, h1, h2⟩ := r.atI e
      exact .inr (.inl ⟨p, vs, i, v, rfl, rfl, hq.sq, h1, k.dat h2⟩)
  · rename_i z i e1 e2
    split at hp
    · rename_i hl
      cases e : atI z.cps.toList i with
      | none => rw [e] at hp; cases hp
      | some c =>
        rw [e] at hp
        cases hp
        cases hx.str e1; cases hy.int e2
        exact .inr (.inr ⟨z, i, c, rfl, rfl, hl, e, k.dat (.str _)⟩)
    · cases hp
  · cases hp

/-! ### slices -/
def cutD (xs : List D) (lo hi : Option Int) : List D := (xs.drop (HT.sIx xs.length 0 lo)).take (HT.sIx xs.length xs.length hi - HT.sIx xs.length 0 lo)
theorem Dats.cut {Γ : Gam} {M : Addr → Prop} {H : Hp} {vs : List V} {ds : List D} (r : Dats Γ M H vs ds) (lo hi : Option Int) : Dats Γ M H (cutV vs lo hi) (cutD ds lo hi) := by
  unfold cutV cutD
  rw [r.length]
  exact (r.drop _).take _
def pSl {Γ : Gam} (x : Sl Γ) (lo hi : Option Int) : Option (Sl Γ) :=
  match x.view with
  | some (.lst ds) => some (.lst (cutD ds lo hi))
  | some (.tup ds) => some (.dat (.tup (cutD ds lo hi)))
  | some (.str z) => if z.length ≤ sizeLine then some (.dat (.str (cutS z lo hi))) else none
  | _ => none
def rSlAll (K : PySem.W.Frag) : V → Option Int → Option Int → Hp → VK → Prop := fun x lo hi H Q => rSlL K x lo hi H Q ∨ (rSlA K x lo hi H Q ∨ rSlS x lo hi H Q)
theorem sl_all {X : Cx} : SlR X (rSlAll X.K) := SlR.or sl_list (SlR.or sl_tupA sl_str)
theorem sIx_all {xs : List D} {lo hi : Option Int} (h : HT.sIx xs.length 0 lo = 0 ∧ HT.sIx xs.length xs.length hi = xs.length) : cutD xs lo hi = xs := by
  unfold cutD
  rw [h.1, h.2]
  simp
theorem pSl_ok {Γ : Gam} (lo hi : Option Int) : Prim1 Γ (fun x H Q => rSlAll Γ.K x lo hi H Q) (fun x => pSl x lo hi) := by
  intro M H x sx s Gx Q dom hp hx k
  have hp : pSl sx lo hi = some s := hp
  unfold pSl at hp
  split at hp
  · rename_i ds e1
    cases hp
    obtain ⟨p, vs, rfl, hq, r⟩ := hx.list e1
    exact .inl ⟨p, vs, rfl, hq, fun q hq => k.lst (r.cut lo hi) hq⟩
  · rename_i ds e1
    cases hp
    obtain ⟨p, vs, rfl, hq, r⟩ := hx.tuple e1
    refine .inr (.inl ⟨p, vs, rfl, hq.sq, fun h => ?_, fun _ q hq => k.tup dom (r.cut lo hi) hq⟩)
    rw [r.length] at h
    rw [sIx_all h] at k
    exact k.dat (.tup hq r)
  · rename_i z e1
    split at hp
    · rename_i hl
      cases hp
      cases hx.str e1
      exact .inr (.inr ⟨z, rfl, hl, k.dat (.str _)⟩)
    · cases hp
  · cases hp
def pRev {Γ : Gam} (x : Sl Γ) : Option (Sl Γ) :=
  match x.view with
  | some (.lst ds) => some (.lst ds.reverse)
  | _ => none
theorem pRev_ok {Γ : Gam} : Prim1 Γ (fun x H Q => ∃ a xs, x = .ref a ∧ SqL Γ.K H a xs ∧ ∀ p, H p = none → Q (.ref p) (upd H p (.lst xs.reverse))) (pRev (Γ := Γ)) := by
  intro M H x sx s Gx Q dom hp hx k
  unfold pRev at hp
  split at hp
  · rename_i ds e1
    cases hp
    obtain ⟨p, vs, rfl, hq, r⟩ := hx.list e1
    exact ⟨p, vs, rfl, hq, fun q hq => k.lst r.reverse hq⟩
  · cases hp
end G

/-! G4: expressions -/
namespace G
open PySem L2

section
variable {Γ : Gam} {X : Cx} {w : Wd} {σ : St} {env env' : Env Γ} {a b c e : Expr} {fa fb fc : AE Γ} {pos : Pos}

/-! ### names -/
def mVar {Γ : Gam} (i : Nat) : Ev Γ := fun env =>
  match env[i]? with
  | some (.dat d) => some (.dat d, env)
  | some (.scr ns) => some (.scr ns, env)
  | some (.lst ds) => some (.dat (.lst ds), env.set i (.dat (.lst ds)))
  | _ => none
theorem SR.to {M M' : Addr → Prop} {H : Hp} {v : V} {s : Sl Γ} {F F' : Addr → Prop} (h : SR Γ M H v s F) (g : Go M H M' H) (e : F' = F) : SR Γ M' H v s F' := by
  subst e
  exact h.go g fun _ _ _ q => q
/-- slot i lets go of what it owns: nobody will change it any more -/
theorem ER.freeze (E : ER Γ w σ env) {i : Nat} {ds : List D} (h : env[i]? = some (.lst ds)) :
    ∃ w', w'.H = w.H ∧ ER Γ w' σ (env.set i (.dat (.lst ds))) ∧ Step w w' ∧ ∃ v, σ[i]? = some (some v) ∧ Dat Γ w'.M w'.H v (.lst ds) := by
  obtain ⟨v, ev, p, vs, rfl, hp, r, n⟩ := E.at (i := i) (s := .lst ds) (by rw [h]; rfl)
  have il : i < env.length := (List.getElem?_eq_some_iff.mp h).1
  have g : Go w.M w.H (fun a => w.M a ∧ ¬ w.F i a) w.H := ⟨fun _ _ _ q => q, fun _ n _ z => n z.1⟩
  have dv : Dat Γ (fun a => w.M a ∧ ¬ w.F i a) w.H (.ref p) (.lst ds) := .lst (fun z => z.2 ((n p).mpr rfl)) hp (r.go g)
  refine ⟨⟨fun a => w.M a ∧ ¬ w.F i a, fun j a => w.F j a ∧ j ≠ i, w.H⟩, rfl, ⟨?_, fun j s hj => ?_, fun j a f => ?_, fun j k a f f' => E.dis j k a f.1 f'.1, fun a m => E.dom a m.1, fun j hj a f => ?_⟩, ⟨fun _ _ _ q => q, fun a h m => ⟨m, h i⟩, fun a m => .inl m.1, fun j a f => .inl ⟨j, f.1⟩, fun _ q => q⟩, _, ev, dv⟩
  · rw [List.length_set]; exact E.len
  · by_cases hji : j = i
    · subst hji
      rw [List.getElem?_set_self il] at hj
      cases hj
      exact .inr ⟨_, ev, dv, fun a z => z.2 rfl⟩
    · rw [List.getElem?_set_ne (Ne.symm hji)] at hj
      have ef : (fun a => w.F j a ∧ j ≠ i) = w.F j := by funext a; exact propext ⟨fun z => z.1, fun z => ⟨z, hji⟩⟩
      rcases E.slot j s hj with ⟨z1, z2⟩ | ⟨u, eu, ru⟩
      · exact .inl ⟨z1, fun a f => z2 a f.1⟩
      · exact .inr ⟨u, eu, ru.to g ef⟩
  · exact ⟨E.sub j a f.1, fun z => f.2 (E.dis j i a f.1 z)⟩
  · rw [List.length_set] at hj
    exact E.out j hj a f.1
theorem sd_var (i : Nat) {x : Str} (hN : X.N[i]? = some x := by rfl) (hv : Vis X.env.scope x := by first | exact Or.inl rfl | exact Or.inr (Or.inl rfl) | exact Or.inr (Or.inr rfl)) (hd : (x == ("__debug__" : Str)) = false := by decide) (hcd : (x == ("__classdict__" : Str)) = false := by decide) :
    SdE Γ X (.Name x pos) (mVar i) := by
  intro hK σ env r env' w Q he E k
  refine wE.of (pe_var hN hv hd hcd) ?_
  unfold mVar at he
  split at he
  · rename_i d g
    cases he
    obtain ⟨v, ev, rv⟩ := E.at (i := i) (s := .dat d) (by rw [g]; rfl)
    exact ⟨v, ev, k v w (fun _ => False) E ⟨⟨rv.1, fun _ z => z⟩, fun _ z => z.elim, fun _ _ z => z.elim⟩ (Step.refl w) fun _ z => z.elim⟩
  · rename_i d g
    cases he
    obtain ⟨v, ev, rv⟩ := E.at (i := i) (s := .scr d) (by rw [g]; rfl)
    exact ⟨v, ev, k v w (fun _ => False) E ⟨⟨rv.1, fun _ z => z⟩, fun _ z => z.elim, fun _ _ z => z.elim⟩ (Step.refl w) fun _ z => z.elim⟩
  · rename_i ds g
    cases he
    obtain ⟨w', eH, E', st, v, ev, dv⟩ := E.freeze g
    refine ⟨v, ev, ?_⟩
    rw [← eH]
    exact k v w' (fun _ => False) E' ⟨⟨dv, fun _ z => z⟩, fun _ z => z.elim, fun _ _ z => z.elim⟩ st fun _ z => z.elim
  · cases he
theorem sda_var (i : Nat) {x : Str} (hN : X.N[i]? = some x := by rfl) (hv : Vis X.env.scope x := by first | exact Or.inl rfl | exact Or.inr (Or.inl rfl) | exact Or.inr (Or.inr rfl)) (hd : (x == ("__debug__" : Str)) = false := by decide) (hcd : (x == ("__classdict__" : Str)) = false := by decide) :
    SdA Γ X (.Name x pos) (.brw i) := fun σ H Q v e q => wE.of (pe_var hN hv hd hcd) ⟨v, e, q⟩
theorem sda_ex {f : Ev Γ} (h : SdE Γ X e f) : SdA Γ X e (.ex f) := h
/-- a fresh list is let go of -/
def mFrz {Γ : Gam} (f : Ev Γ) : Ev Γ := fun env =>
  match f env with
  | some (.dat d, env') => some (.dat d, env')
  | some (.lst ds, env') => some (.dat (.lst ds), env')
  | _ => none
theorem sd_frz {f : Ev Γ} (h : SdE Γ X e f) : SdE Γ X e (mFrz f) := by
  intro hK σ env r env' w Q he E k
  unfold mFrz at he
  split at he
  · rename_i d env1 g
    cases he
    exact h hK σ env _ _ w Q g E k
  · rename_i ds env1 g
    cases he
    refine h hK σ env _ _ w Q g E fun v w1 Fr E1 T1 p1 f1 => ?_
    obtain ⟨p, vs, rfl, hp, r, n⟩ := T1.rep
    have go : Go w1.M w1.H (fun a => w1.M a ∧ ¬ Fr a) w1.H := ⟨fun _ _ _ q => q, fun _ n _ z => n z.1⟩
    have st : Step w ⟨fun a => w1.M a ∧ ¬ Fr a, w1.F, w1.H⟩ := ⟨p1.keep, fun a hF m => ⟨p1.mu a hF m, fun z => (f1 a z).elim (fun ⟨i, q⟩ => hF i q) fun q => E.dom a m q⟩, fun a m => p1.src a m.1, p1.own, p1.live⟩
    have E2 : ER Γ ⟨fun a => w1.M a ∧ ¬ Fr a, w1.F, w1.H⟩ σ env' := by
      refine ⟨E1.len, fun j s hj => ?_, fun j a f => ⟨E1.sub j a f, fun z => T1.off a j z f⟩, E1.dis, fun a m => E1.dom a m.1, E1.out⟩
      rcases E1.slot j s hj with z | ⟨u, eu, ru⟩
      · exact .inl z
      · exact .inr ⟨u, eu, ru.to go rfl⟩
    exact k (.ref p) ⟨fun a => w1.M a ∧ ¬ Fr a, w1.F, w1.H⟩ (fun _ => False) E2 ⟨⟨.lst (fun z => z.2 ((n p).mpr rfl)) hp (r.go go), fun _ z => z⟩, fun _ z => z.elim, fun _ _ z => z.elim⟩ st fun _ z => z.elim
  · cases he

/-! ### constants -/
def mC {Γ : Gam} (d : D) : Ev Γ := fun env => some (.dat d, env)
theorem sd_c {v : V} {d : D} (h : PE X e (tC v)) (hd : ∀ M H, Dat Γ M H v d) : SdE Γ X e (mC d) := by
  intro hK σ env r env' w Q he E k
  cases he
  exact wE.of h (k v w (fun _ => False) E ⟨⟨hd _ _, fun _ z => z⟩, fun _ z => z.elim, fun _ _ z => z.elim⟩ (Step.refl w) fun _ z => z.elim)
theorem sd_int {i j} : SdE Γ X (.Constant (.int i) j pos) (mC (.int i)) := sd_c pe_int fun _ _ => .int _
theorem sd_bl {b j} : SdE Γ X (.Constant (.bool b) j pos) (mC (.bl b)) := sd_c pe_bl fun _ _ => .bl _
theorem sd_non {j} : SdE Γ X (.Constant .none j pos) (mC .non) := sd_c pe_non fun _ _ => .non
theorem sd_str {x j} : SdE Γ X (.Constant (.str x) j pos) (mC (.str x)) := sd_c pe_str fun _ _ => .str _
/-- a module's constant -/
theorem sd_gint {x : Str} {i : Int} {t : Tok} (hg : Gl X x) (hm : X.mg x = some (.int i t)) (hd : (x == ("__debug__" : Str)) = false := by decide) : SdE Γ X (.Name x pos) (mC (.int i)) := sd_c (pe_glob (v := .int i) hg hm ⟨t, rfl⟩ hd) fun _ _ => .int _
theorem sd_gstr {x z : Str} {t : Tok} (hg : Gl X x) (hm : X.mg x = some (.str z t)) (hd : (x == ("__debug__" : Str)) = false := by decide) : SdE Γ X (.Name x pos) (mC (.str z)) := sd_c (pe_glob (v := .str z) hg hm ⟨t, rfl⟩ hd) fun _ _ => .str _

/-! ### operators -/
theorem sd_bin {op : Operator} {r : R2} {p : Sl Γ → Sl Γ → Option (Sl Γ)} (ho : Gd Γ X → OpR X (binaryOp op) r) (hp : Prim2 Γ r p) (ha : SdA Γ X a fa) (hb : SdA Γ X b fb) : SdE Γ X (.BinOp a op b pos) (m2 p fa fb) :=
  fun hK σ env r env' w Q he E k => wE.of (pe_op (ho hK) pe_wE pe_wE) (run2 hp ha hb hK he E k)
theorem sd_add (ha : SdA Γ X a fa) (hb : SdA Γ X b fb) : SdE Γ X (.BinOp a .Add b pos) (m2 pAdd fa fb) := sd_bin (fun g => by rw [g.k]; exact op_addAll) pAdd_ok ha hb
theorem sd_sub (ha : SdA Γ X a fa) (hb : SdA Γ X b fb) : SdE Γ X (.BinOp a .Sub b pos) (m2 pSub fa fb) := sd_bin (fun g => op_sub) pSub_ok ha hb
theorem sd_mul (ha : SdA Γ X a fa) (hb : SdA Γ X b fb) : SdE Γ X (.BinOp a .Mult b pos) (m2 pMul fa fb) := sd_bin (fun g => op_mul) pMul_ok ha hb
theorem sd_div (ha : SdA Γ X a fa) (hb : SdA Γ X b fb) : SdE Γ X (.BinOp a .FloorDiv b pos) (m2 pDiv fa fb) := sd_bin (fun g => op_fdivW) pDiv_ok ha hb
theorem sd_mod (ha : SdA Γ X a fa) (hb : SdA Γ X b fb) : SdE Γ X (.BinOp a .Mod b pos) (m2 pMod fa fb) := sd_bin (fun g => op_mod) pMod_ok ha hb
theorem sd_pow (ha : SdA Γ X a fa) (hb : SdA Γ X b fb) : SdE Γ X (.BinOp a .Pow b pos) (m2 pPow fa fb) := sd_bin (fun g => op_pow) pPow_ok ha hb
theorem sd_neg (ha : SdA Γ X a fa) : SdE Γ X (.UnaryOp .USub a pos) (m1 pNeg fa) := fun hK σ env r env' w Q he E k => wE.of (pe_un un_neg pe_wE) (run1 pNeg_ok ha hK he E k)
theorem sd_cmpG {op : CmpOp} {r : R2} {p : Sl Γ → Sl Γ → Option (Sl Γ)} (ho : Gd Γ X → OpR X (compareOp op) r) (hp : Prim2 Γ r p) (hm : behindInMarks op b = false) (ha : SdA Γ X a fa) (hb : SdA Γ X b fb) : SdE Γ X (.Compare a [op] [b] pos) (m2 p fa fb) :=
  fun hK σ env r env' w Q he E k => wE.of (pe_cmpR (ho hK) pe_wE pe_wE hm) (run2 hp ha hb hK he E k)
/-- a value as a test -/
def toT {Γ : Gam} (f : Ev Γ) : Et Γ := fun env =>
  match f env with
  | some (.dat (.bl b), env') => some (b, env')
  | _ => none
theorem toT_some {f : Ev Γ} {b : Bool} (h : toT f env = some (b, env')) : f env = some (.dat (.bl b), env') := by
  unfold toT at h
  split at h
  · rename_i b1 env1 g
    cases h
    exact g
  · cases h
theorem TR.bl {w : Wd} {v : V} {b : Bool} {Fr : Addr → Prop} (t : TR Γ w v (.dat (.bl b)) Fr) : v = .bl b := t.rep.bl rfl
theorem sdt_cmpG {op : CmpOp} {r : R2} {p : Sl Γ → Sl Γ → Option (Sl Γ)} (ho : Gd Γ X → OpR X (compareOp op) r) (hp : Prim2 Γ r p) (hm : behindInMarks op b = false) (ha : SdA Γ X a fa) (hb : SdA Γ X b fb) : SdT Γ X (.Compare a [op] [b] pos) (toT (m2 p fa fb)) :=
  fun hK σ env r env' w Q he E k => wT.of (pt_cmpR (ho hK) pe_wE pe_wE hm) (run2 hp ha hb hK (toT_some he) E fun v w' Fr E' T p' f => ⟨r, T.bl, k w' E' p'⟩)
/-- the comparisons: operator, its rule, its reading -/
structure Cmp (Γ : Gam) (X : Cx) (op : CmpOp) (p : Sl Γ → Sl Γ → Option (Sl Γ)) : Prop where
  ex : ∃ r, (Gd Γ X → OpR X (compareOp op) r) ∧ Prim2 Γ r p
theorem c_eq : Cmp Γ X .Eq pEq := ⟨_, fun g => by rw [g.k]; exact op_eqD (Nat.lt_trans (Nat.lt_succ_self _) g.un), pEq_ok⟩
theorem c_ne : Cmp Γ X .NotEq pNe := ⟨_, fun g => by rw [g.k]; exact op_neD (Nat.lt_trans (Nat.lt_succ_self _) g.un), pNe_ok⟩
theorem c_lt : Cmp Γ X .Lt pLt := ⟨_, fun _ => op_ltO, pOrd_ok⟩
theorem c_le : Cmp Γ X .LtE pLe := ⟨_, fun _ => op_leO, pOrd_ok⟩
theorem c_gt : Cmp Γ X .Gt pGt := ⟨_, fun _ => op_gtO, pOrd_ok⟩
theorem c_ge : Cmp Γ X .GtE pGe := ⟨_, fun _ => op_geO, pOrd_ok⟩
theorem c_in : Cmp Γ X .In pIn := ⟨_, fun g => by rw [g.k]; exact op_inAll g.un, pIn_ok⟩
theorem c_ni : Cmp Γ X .NotIn pNotIn := ⟨_, fun g => by rw [g.k]; exact op_notInAll g.un, pNotIn_ok⟩
theorem c_is : Cmp Γ X .Is pIs := ⟨_, fun _ => op_isAll, pIsG_ok⟩
theorem c_isn : Cmp Γ X .IsNot pIsNot := ⟨_, fun _ => op_isNotAll, pIsG_ok⟩
theorem sd_cmp {op : CmpOp} {p : Sl Γ → Sl Γ → Option (Sl Γ)} (h : Cmp Γ X op p) (ha : SdA Γ X a fa) (hb : SdA Γ X b fb) (hm : behindInMarks op b = false := by first | exact nobehind _ (by decide) (by decide) | rfl) : SdE Γ X (.Compare a [op] [b] pos) (m2 p fa fb) := by
  obtain ⟨r, h1, h2⟩ := h
  exact sd_cmpG h1 h2 hm ha hb
theorem sdt_cmp {op : CmpOp} {p : Sl Γ → Sl Γ → Option (Sl Γ)} (h : Cmp Γ X op p) (ha : SdA Γ X a fa) (hb : SdA Γ X b fb) (hm : behindInMarks op b = false := by first | exact nobehind _ (by decide) (by decide) | rfl) : SdT Γ X (.Compare a [op] [b] pos) (toT (m2 p fa fb)) := by
  obtain ⟨r, h1, h2⟩ := h
  exact sdt_cmpG h1 h2 hm ha hb
theorem sd_ix (ha : SdA Γ X a fa) (hb : SdA Γ X b fb) (hs : PlainIx b := by exact fun _ _ => rfl) : SdE Γ X (.Subscript a b pos) (m2 pIx fa fb) :=
  fun hK σ env r env' w Q he E k => wE.of (pe_ix (by rw [hK.k]; exact ix_seq) pe_wE pe_wE hs) (run2 pIx_ok ha hb hK he E k)
theorem sd_rev {k : Nat} {p1 p2 p3 : Pos} (ha : SdA Γ X a fa) : SdE Γ X (.Subscript a (.Slice none none (some (.UnaryOp .USub (.Constant (.int 1) k p1) p2)) p3) pos) (m1 pRev fa) :=
  fun hK σ env r env' w Q he E k => wE.of (pe_revL pe_wE) (by unfold tRevL; rw [← hK.k]; exact run1 pRev_ok ha hK he E k)
end
end G

/-! G5: truth, and, or, not, if; displays; slices; built-ins -/
namespace G
open PySem L2

def truth {Γ : Gam} (s : Sl Γ) : Option Bool :=
  match s.view with
  | some .non => some false
  | some (.bl b) => some b
  | some (.int i) => some (i != 0)
  | some (.str z) => if z.length ≤ sizeLine then some ((z.length : Int) != 0) else none
  | some (.lst ds) => some (!ds.isEmpty)
  | some (.tup ds) => some (!ds.isEmpty)
  | _ => none
theorem Dats.empty {Γ : Gam} {M : Addr → Prop} {H : Hp} {vs : List V} {ds : List D} (r : Dats Γ M H vs ds) : vs.isEmpty = ds.isEmpty := by cases r <;> rfl
theorem truth_ok {Γ : Gam} {M : Addr → Prop} {H : Hp} {v : V} {s : Sl Γ} {G' : Addr → Prop} {b : Bool} (h : SR Γ M H v s G') (e : truth s = some b) : TruV Γ.K v H b := by
  unfold truth at e
  split at e
  · rename_i g; cases e; cases h.non g; rfl
  · rename_i g; cases e; cases h.bl g; rfl
  · rename_i g; cases e; cases h.int g; rfl
  · rename_i z g
    split at e
    · rename_i hl; cases e; cases h.str g; exact ⟨hl, rfl⟩
    · cases e
  · rename_i ds g
    cases e
    obtain ⟨p, vs, rfl, hq, r⟩ := h.list g
    exact .inl ⟨vs, hq, by rw [r.empty]⟩
  · rename_i ds g
    cases e
    obtain ⟨p, vs, rfl, hq, r⟩ := h.tuple g
    exact .inr (.inl ⟨vs, hq.sq, by rw [r.empty]⟩)
  · cases e
/-- a value's truth -/
def mT {Γ : Gam} (a : AE Γ) : Et Γ := fun env =>
  match evA a env with
  | none => none
  | some (x, env1) => match peek x env1 with
    | none => none
    | some s => (truth s).map fun b => (b, env1)
def mAndV {Γ : Gam} (f g : Ev Γ) : Ev Γ := fun env =>
  match f env with
  | none => none
  | some (s, env1) => match truth s with
    | some true => g env1
    | some false => some (s, env1)
    | none => none
def mOrV {Γ : Gam} (f g : Ev Γ) : Ev Γ := fun env =>
  match f env with
  | none => none
  | some (s, env1) => match truth s with
    | some true => some (s, env1)
    | some false => g env1
    | none => none
def mNotV {Γ : Gam} (f : Et Γ) : Ev Γ := fun env => (f env).map fun p => (.dat (.bl (!p.1)), p.2)
def mNotT {Γ : Gam} (f : Et Γ) : Et Γ := fun env => (f env).map fun p => (!p.1, p.2)
def mAndT {Γ : Gam} (f g : Et Γ) : Et Γ := fun env =>
  match f env with
  | none => none
  | some (true, env1) => g env1
  | some (false, env1) => some (false, env1)
def mOrT {Γ : Gam} (f g : Et Γ) : Et Γ := fun env =>
  match f env with
  | none => none
  | some (true, env1) => some (true, env1)
  | some (false, env1) => g env1
def mIf {Γ : Gam} (c : Et Γ) (f g : Ev Γ) : Ev Γ := fun env =>
  match c env with
  | none => none
  | some (true, env1) => f env1
  | some (false, env1) => g env1
section
variable {Γ : Gam} {X : Cx} {a b c e : Expr} {rest : List Expr} {fa fb fc : AE Γ} {f g : Ev Γ} {tf tg tc : Et Γ} {pos : Pos}
def SdW (Γ : Gam) (X : Cx) (e : Expr) (f : Et Γ) : Prop := Gd Γ X → ∀ (σ : St) (env : Env Γ) (b : Bool) (env' : Env Γ) (w : Wd) (Q : Bool → Hp → Prop), f env = some (b, env') → ER Γ w σ env →
  (∀ w', ER Γ w' σ env' → Step w w' → Q b w'.H) → wW X e σ w.H Q
theorem SdW.t (h : SdW Γ X e tf) : SdT Γ X e tf := fun hK σ env b env' w Q he E k => wT.of (PW.pt pw_wW) (h hK σ env b env' w Q he E k)
theorem sdt_tru (ha : SdA Γ X a fa) (hs : ∀ whole, isTrue a X.env whole = (do let v ← whole; standAt a.pos; holding [v] (truthy v)) := by intro _; rfl) : SdT Γ X a (mT fa) := by
  intro hK σ env b env' w Q he E k
  refine wT.of (pt_truth pe_wE hs) ?_
  unfold mT at he
  cases g1 : evA fa env with
  | none => simp only [g1] at he; cases he
  | some q =>
    obtain ⟨x, env1⟩ := q
    simp only [g1] at he
    cases g2 : peek x env1 with
    | none => simp only [g2] at he; cases he
    | some s =>
      simp only [g2] at he
      cases g3 : truth s with
      | none => simp only [g3] at he; cases he
      | some b1 =>
        simp only [g3, Option.map_some] at he
        cases he
        refine sda_run ha hK g1 E fun v w1 Fr E1 A1 p1 f1 => ?_
        obtain ⟨G1, r1⟩ := A1.peek E1 g2
        exact ⟨b, by rw [← hK.k]; exact truth_ok r1 g3, k w1 E1 p1⟩
theorem sdt_not (h : SdT Γ X a tf) : SdT Γ X (.UnaryOp .Not a pos) (mNotT tf) := by
  intro hK σ env b env' w Q he E k
  refine wT.of (pt_not pt_wT) ?_
  unfold mNotT at he
  cases g1 : tf env with
  | none => rw [g1] at he; cases he
  | some q =>
    rw [g1] at he
    cases he
    exact h hK σ env _ _ w _ g1 E k
theorem sd_not (h : SdT Γ X a tf) (hp : PE X (.UnaryOp .Not a pos) (fun σ H Q => wT X a σ H fun c H1 => Q (.bl (!c)) H1)) : SdE Γ X (.UnaryOp .Not a pos) (mNotV tf) := by
  intro hK σ env b env' w Q he E k
  refine wE.of hp ?_
  unfold mNotV at he
  cases g1 : tf env with
  | none => rw [g1] at he; cases he
  | some q =>
    rw [g1] at he
    cases he
    refine h hK σ env _ _ w _ g1 E fun w1 E1 p1 => ?_
    exact k _ w1 (fun _ => False) E1 ⟨⟨.bl _, fun _ z => z⟩, fun _ z => z.elim, fun _ _ z => z.elim⟩ p1 fun _ z => z.elim
/-- not e as a value -/
def mNotE {Γ : Gam} (f : Ev Γ) : Ev Γ := fun env =>
  match f env with
  | none => none
  | some (s, env1) => (truth s).map fun b => (.dat (.bl (!b)), env1)
theorem sd_notE (h : SdE Γ X a f) : SdE Γ X (.UnaryOp .Not a pos) (mNotE f) := by
  intro hK σ env b env' w Q he E k
  refine wE.of (pe_notT pe_wE) ?_
  unfold mNotE at he
  cases g1 : f env with
  | none => simp only [g1] at he; cases he
  | some q =>
    obtain ⟨s, env1⟩ := q
    simp only [g1] at he
    cases g2 : truth s with
    | none => simp only [g2] at he; cases he
    | some t =>
      simp only [g2, Option.map_some] at he
      cases he
      refine h hK σ env _ _ w _ g1 E fun v w1 Fr E1 T1 p1 f1 => ?_
      refine ⟨t, by rw [← hK.k]; exact truth_ok T1.rep g2, ?_⟩
      exact k _ w1 (fun _ => False) E1 ⟨⟨.bl _, fun _ z => z⟩, fun _ z => z.elim, fun _ _ z => z.elim⟩ p1 fun _ z => z.elim
theorem sdw_and1 (h : SdT Γ X a tf) : SdW Γ X (.BoolOp .And [a] pos) tf := fun hK σ env b env' w Q he E k => wW.of (pw_and1 pt_wT) (h hK σ env b env' w Q he E k)
theorem sdw_or1 (h : SdT Γ X a tf) : SdW Γ X (.BoolOp .Or [a] pos) tf := fun hK σ env b env' w Q he E k => wW.of (pw_or1 pt_wT) (h hK σ env b env' w Q he E k)
theorem sdw_and (h : SdT Γ X a tf) (h' : SdW Γ X (.BoolOp .And (b :: rest) pos) tg) : SdW Γ X (.BoolOp .And (a :: b :: rest) pos) (mAndT tf tg) := by
  intro hK σ env r env' w Q he E k
  refine wW.of (pw_and pt_wT pw_wW) ?_
  unfold mAndT at he
  split at he
  · cases he
  · rename_i env1 g1
    refine h hK σ env _ _ w _ g1 E fun w1 E1 p1 => ?_
    rw [if_pos rfl]
    exact h' hK σ env1 r env' w1 Q he E1 fun w2 E2 p2 => k w2 E2 (p1.trans p2 E.dom)
  · rename_i env1 g1
    cases he
    refine h hK σ env _ _ w _ g1 E fun w1 E1 p1 => ?_
    rw [if_neg Bool.false_ne_true]
    exact k w1 E1 p1
theorem sdw_or (h : SdT Γ X a tf) (h' : SdW Γ X (.BoolOp .Or (b :: rest) pos) tg) : SdW Γ X (.BoolOp .Or (a :: b :: rest) pos) (mOrT tf tg) := by
  intro hK σ env r env' w Q he E k
  refine wW.of (pw_or pt_wT pw_wW) ?_
  unfold mOrT at he
  split at he
  · cases he
  · rename_i env1 g1
    cases he
    refine h hK σ env _ _ w _ g1 E fun w1 E1 p1 => ?_
    rw [if_pos rfl]
    exact k w1 E1 p1
  · rename_i env1 g1
    refine h hK σ env _ _ w _ g1 E fun w1 E1 p1 => ?_
    rw [if_neg Bool.false_ne_true]
    exact h' hK σ env1 r env' w1 Q he E1 fun w2 E2 p2 => k w2 E2 (p1.trans p2 E.dom)
theorem sd_one {op} (h : SdE Γ X a f) : SdE Γ X (.BoolOp op [a] pos) f := fun hK σ env r env' w Q he E k => wE.of (pe_one pe_wE) (h hK σ env r env' w Q he E k)
theorem sd_and (h : SdE Γ X a f) (h' : SdE Γ X (.BoolOp .And (b :: rest) pos) g) : SdE Γ X (.BoolOp .And (a :: b :: rest) pos) (mAndV f g) := by
  intro hK σ env r env' w Q he E k
  refine wE.of (pe_andT pe_wE pe_wE) ?_
  unfold mAndV at he
  cases g1 : f env with
  | none => simp only [g1] at he; cases he
  | some q =>
    obtain ⟨s, env1⟩ := q
    simp only [g1] at he
    refine h hK σ env _ _ w _ g1 E fun v w1 Fr E1 T1 p1 f1 => ?_
    split at he
    · rename_i g2
      refine ⟨true, by rw [← hK.k]; exact truth_ok T1.rep g2, ?_⟩
      rw [if_pos rfl]
      exact h' hK σ env1 r env' w1 Q he E1 fun v2 w2 Fr2 E2 T2 p2 f2 => k v2 w2 Fr2 E2 T2 (p1.trans p2 E.dom) (f2.back p1)
    · rename_i g2
      cases he
      refine ⟨false, by rw [← hK.k]; exact truth_ok T1.rep g2, ?_⟩
      rw [if_neg Bool.false_ne_true]
      exact k v w1 Fr E1 T1 p1 f1
    · cases he
theorem sd_or (h : SdE Γ X a f) (h' : SdE Γ X (.BoolOp .Or (b :: rest) pos) g) : SdE Γ X (.BoolOp .Or (a :: b :: rest) pos) (mOrV f g) := by
  intro hK σ env r env' w Q he E k
  refine wE.of (pe_orT pe_wE pe_wE) ?_
  unfold mOrV at he
  cases g1 : f env with
  | none => simp only [g1] at he; cases he
  | some q =>
    obtain ⟨s, env1⟩ := q
    simp only [g1] at he
    refine h hK σ env _ _ w _ g1 E fun v w1 Fr E1 T1 p1 f1 => ?_
    split at he
    · rename_i g2
      cases he
      refine ⟨true, by rw [← hK.k]; exact truth_ok T1.rep g2, ?_⟩
      rw [if_pos rfl]
      exact k v w1 Fr E1 T1 p1 f1
    · rename_i g2
      refine ⟨false, by rw [← hK.k]; exact truth_ok T1.rep g2, ?_⟩
      rw [if_neg Bool.false_ne_true]
      exact h' hK σ env1 r env' w1 Q he E1 fun v2 w2 Fr2 E2 T2 p2 f2 => k v2 w2 Fr2 E2 T2 (p1.trans p2 E.dom) (f2.back p1)
    · cases he
theorem sd_if (hc : SdT Γ X c tc) (ha : SdE Γ X a f) (hb : SdE Γ X b g) : SdE Γ X (.IfExp c a b pos) (mIf tc f g) := by
  intro hK σ env r env' w Q he E k
  refine wE.of (pe_ifExp pt_wT pe_wE pe_wE) ?_
  unfold mIf at he
  split at he
  · cases he
  · rename_i env1 g1
    refine hc hK σ env _ _ w _ g1 E fun w1 E1 p1 => ?_
    rw [if_pos rfl]
    exact ha hK σ env1 r env' w1 Q he E1 fun v2 w2 Fr2 E2 T2 p2 f2 => k v2 w2 Fr2 E2 T2 (p1.trans p2 E.dom) (f2.back p1)
  · rename_i env1 g1
    refine hc hK σ env _ _ w _ g1 E fun w1 E1 p1 => ?_
    rw [if_neg Bool.false_ne_true]
    exact hb hK σ env1 r env' w1 Q he E1 fun v2 w2 Fr2 E2 T2 p2 f2 => k v2 w2 Fr2 E2 T2 (p1.trans p2 E.dom) (f2.back p1)
/-- a op b op' c: b data -/
def mChain {Γ : Gam} (p p' : Sl Γ → Sl Γ → Option (Sl Γ)) (fa : AE Γ) (fb : Ev Γ) (fc : AE Γ) : Ev Γ := fun env =>
  match evA fa env with
  | none => none
  | some (x, env1) => match fb env1 with
    | some (.dat d, env2) => match peek x env2 with
      | none => none
      | some sx => match p sx (.dat d) with
        | some (.dat (.bl true)) => match evA fc env2 with
          | none => none
          | some (y, env3) => match peek y env3 with
            | none => none
            | some sy => (p' (.dat d) sy).map fun s => (s, env3)
        | some (.dat (.bl false)) => some (.dat (.bl false), env2)
        | _ => none
    | _ => none
theorem chain_run {r r' : R2} {p p' : Sl Γ → Sl Γ → Option (Sl Γ)} {fb : Ev Γ} {σ : St} {env env' : Env Γ} {w : Wd} {s : Sl Γ} {Q : VK} (hp : Prim2 Γ r p) (hp' : Prim2 Γ r' p') (ha : SdA Γ X a fa) (hb : SdE Γ X b fb) (hc : SdA Γ X c fc) (hK : Gd Γ X) (he : mChain p p' fa fb fc env = some (s, env')) (E : ER Γ w σ env)
    (k : ∀ v w' Fr, ER Γ w' σ env' → TR Γ w' v s Fr → Step w w' → Fresh w Fr → Q v w'.H) : tChain r r' (wE X a) (wE X b) (wE X c) σ w.H Q := by
  unfold mChain at he
  cases g1 : evA fa env with
  | none => simp only [g1] at he; cases he
  | some q =>
    obtain ⟨x, env1⟩ := q
    simp only [g1] at he
    cases g2 : fb env1 with
    | none => simp only [g2] at he; cases he
    | some q =>
      obtain ⟨sd, env2⟩ := q
      cases sd with
      | dat d =>
        simp only [g2] at he
        cases g3 : peek x env2 with
        | none => simp only [g3] at he; cases he
        | some sx =>
          simp only [g3] at he
          refine sda_run ha hK g1 E fun v w1 Fr E1 A1 p1 f1 => ?_
          refine hb hK σ env1 _ _ w1 _ g2 E1 fun u w2 Fr2 E2 T2 p2 f2 => ?_
          have p12 := p1.trans p2 E.dom
          obtain ⟨G1, r1⟩ := (A1.step E1 p2).peek E2 g3
          split at he
          · rename_i g4
            refine hp w2.M w2.H v u sx _ _ G1 Fr2 _ E2.dom g4 r1 T2.rep (res_of E2 fun z w3 Fr3 E3 T3 p3 f3 => ⟨true, T3.bl, ?_⟩)
            rw [if_pos rfl]
            cases g5 : evA fc env2 with
            | none => simp only [g5] at he; cases he
            | some q =>
              obtain ⟨y, env3⟩ := q
              simp only [g5] at he
              cases g6 : peek y env3 with
              | none => simp only [g6] at he; cases he
              | some sy =>
                simp only [g6] at he
                cases g7 : p' (.dat d) sy with
                | none => rw [g7] at he; cases he
                | some s1 =>
                  rw [g7] at he
                  cases he
                  refine sda_run hc hK g5 E3 fun y4 w4 Fr4 E4 A4 p4 f4 => ?_
                  obtain ⟨G4, r4⟩ := A4.peek E4 g6
                  have p13 := p12.trans p3 E.dom
                  have p14 := p13.trans p4 E.dom
                  have T2' := TR.step E3 (TR.step E2 T2 p3) p4
                  exact hp' w4.M w4.H u y4 _ sy s Fr2 G4 Q E4.dom g7 T2'.rep r4 (res_of E4 fun v5 w5 Fr5 E5 T5 p5 f5 => k v5 w5 Fr5 E5 T5 (p14.trans p5 E.dom) (f5.back p14))
          · rename_i g4
            cases he
            refine hp w2.M w2.H v u sx _ _ G1 Fr2 _ E2.dom g4 r1 T2.rep (res_of E2 fun z w3 Fr3 E3 T3 p3 f3 => ⟨false, T3.bl, ?_⟩)
            rw [if_neg Bool.false_ne_true]
            exact k _ w3 (fun _ => False) E3 ⟨⟨.bl _, fun _ z => z⟩, fun _ z => z.elim, fun _ _ z => z.elim⟩ (p12.trans p3 E.dom) fun _ z => z.elim
          · cases he
      | _ => simp only [g2] at he; cases he
theorem sd_chain {op op' : CmpOp} {p p' : Sl Γ → Sl Γ → Option (Sl Γ)} {fb : Ev Γ} (h : Cmp Γ X op p) (h' : Cmp Γ X op' p') (ha : SdA Γ X a fa) (hb : SdE Γ X b fb) (hc : SdA Γ X c fc) (hm : lastMarks [op, op'] [b, c] = false := by with_unfolding_all rfl) :
    SdE Γ X (.Compare a [op, op'] [b, c] pos) (mChain p p' fa fb fc) := by
  obtain ⟨r, h1, h2⟩ := h
  obtain ⟨r', h1', h2'⟩ := h'
  exact fun hK σ env s env' w Q he E k => wE.of (pe_chain (h1 hK) (h1' hK) pe_wE pe_wE pe_wE hm) (chain_run h2 h2' ha hb hc hK he E k)
theorem sdt_chain {op op' : CmpOp} {p p' : Sl Γ → Sl Γ → Option (Sl Γ)} {fb : Ev Γ} (h : Cmp Γ X op p) (h' : Cmp Γ X op' p') (ha : SdA Γ X a fa) (hb : SdE Γ X b fb) (hc : SdA Γ X c fc) (hm : lastMarks [op, op'] [b, c] = false := by with_unfolding_all rfl) :
    SdT Γ X (.Compare a [op, op'] [b, c] pos) (toT (mChain p p' fa fb fc)) := by
  obtain ⟨r, h1, h2⟩ := h
  obtain ⟨r', h1', h2'⟩ := h'
  exact fun hK σ env s env' w Q he E k => wT.of (pt_chain (h1 hK) (h1' hK) pe_wE pe_wE pe_wE hm) (chain_run h2 h2' ha hb hc hK (toT_some he) E fun v w' Fr E' T p' f => ⟨s, T.bl, k w' E' p'⟩)
end
end G

/-! G6: displays, slices, calls of built-ins, methods of texts -/
namespace G
open PySem L2

def allDat {Γ : Gam} : List (Sl Γ) → Option (List D)
  | [] => some []
  | .dat d :: r => (allDat r).map (d :: ·)
  | _ => none
theorem allDat_ok {Γ : Gam} {M : Addr → Prop} {H : Hp} : ∀ {vs : List V} {ss : List (Sl Γ)} {ds : List D}, SRs Γ M H vs ss → allDat ss = some ds → Dats Γ M H vs ds
  | _, _, _, .nil, e => by cases e; exact .nil
  | _, _, _, .cons (s := s) (ss := ss) h r, e => by
    cases s with
    | dat d =>
      unfold allDat at e
      cases g : allDat ss with
      | none => rw [g] at e; cases e
      | some es =>
        rw [g] at e
        cases e
        exact .cons h.1 (allDat_ok r g)
    | _ => cases e
def pTupN {Γ : Gam} (ss : List (Sl Γ)) : Option (Sl Γ) :=
  match allDat ss with
  | some ds => if ds.length ≤ sizeLine then some (.dat (.tup ds)) else none
  | none => none
def pLstN {Γ : Gam} (ss : List (Sl Γ)) : Option (Sl Γ) :=
  match allDat ss with
  | some ds => if ds.length ≤ sizeLine then some (.lst ds) else none
  | none => none
theorem pTupN_ok {Γ : Gam} : PrimN Γ (fun xs H Q => xs.length ≤ sizeLine ∧ ∀ p, H p = none → Q (.ref p) (upd H p (.tup xs))) (pTupN (Γ := Γ)) := by
  intro M H xs ss s Q dom hp hx k
  unfold pTupN at hp
  split at hp
  · rename_i ds g
    split at hp
    · rename_i hl
      cases hp
      have r := allDat_ok hx g
      exact ⟨by rw [r.length]; exact hl, fun p hp => k.tup dom r hp⟩
    · cases hp
  · cases hp
theorem pLstN_ok {Γ : Gam} : PrimN Γ (fun xs H Q => xs.length ≤ sizeLine ∧ ∀ p, H p = none → Q (.ref p) (upd H p (.lst xs))) (pLstN (Γ := Γ)) := by
  intro M H xs ss s Q dom hp hx k
  unfold pLstN at hp
  split at hp
  · rename_i ds g
    split at hp
    · rename_i hl
      cases hp
      have r := allDat_ok hx g
      exact ⟨by rw [r.length]; exact hl, fun p hp => k.lst r hp⟩
    · cases hp
  · cases hp
section
variable {Γ : Gam} {X : Cx} {a b c e : Expr} {es : List Expr} {as : List (AE Γ)} {fa fb fc : AE Γ} {f g : Ev Γ} {pos : Pos}
theorem sd_tup {x1} (h : SdL Γ X es as) : SdE Γ X (.Tuple es x1 pos) (mN pTupN as) := fun hK σ env r env' w Q he E k => wE.of (pe_tup (pa_wL h.ns)) (runN pTupN_ok h hK he E k)
theorem sd_lst (h : SdL Γ X es as) : SdE Γ X (.List es pos) (mN pLstN as) := fun hK σ env r env' w Q he E k => wE.of (pe_lst (pa_wL h.ns)) (runN pLstN_ok h hK he E k)

/-! ### slices -/
theorem wE.mono {σ : St} {H : Hp} {Q Q' : VK} (h : wE X e σ H Q) (q : ∀ v H', Q v H' → Q' v H') : wE X e σ H Q' := fun pins s I => thn (h pins s I) fun u s1 ⟨v, H1, I1, r1, q1⟩ => ⟨v, H1, I1, r1, q v H1 q1⟩
def asInt {Γ : Gam} (s : Sl Γ) : Option Int :=
  match s.view with
  | some (.int i) => some i
  | _ => none
theorem asInt_some {s : Sl Γ} {i : Int} (h : asInt s = some i) : s.view = some (.int i) := by
  unfold asInt at h
  split at h
  · rename_i g; cases h; exact g
  · cases h
def pSl1 {Γ : Gam} (x y : Sl Γ) : Option (Sl Γ) := match asInt y with | some i => pSl x (some i) none | none => none
def pSl2 {Γ : Gam} (x y : Sl Γ) : Option (Sl Γ) := match asInt y with | some i => pSl x none (some i) | none => none
def pSl3 {Γ : Gam} : List (Sl Γ) → Option (Sl Γ)
  | [x, y, z] => match asInt y, asInt z with | some i, some j => pSl x (some i) (some j) | _, _ => none
  | _ => none
theorem pSl1_ok : Prim2 Γ (fun x y H Q => ∃ i, y = V.int i ∧ rSlAll Γ.K x (some i) none H Q) pSl1 := by
  intro M H x y sx sy s Gx Gy Q dom hp hx hy k
  unfold pSl1 at hp
  split at hp
  · rename_i i g
    exact ⟨i, hy.int (asInt_some g), pSl_ok (some i) none M H x sx s Gx Q dom hp hx k⟩
  · cases hp
theorem pSl2_ok : Prim2 Γ (fun x y H Q => ∃ i, y = V.int i ∧ rSlAll Γ.K x none (some i) H Q) pSl2 := by
  intro M H x y sx sy s Gx Gy Q dom hp hx hy k
  unfold pSl2 at hp
  split at hp
  · rename_i i g
    exact ⟨i, hy.int (asInt_some g), pSl_ok none (some i) M H x sx s Gx Q dom hp hx k⟩
  · cases hp
theorem pSl3_ok : PrimN Γ (fun xs H Q => ∃ x i j, xs = [x, V.int i, V.int j] ∧ rSlAll Γ.K x (some i) (some j) H Q) pSl3 := by
  intro M H xs ss s Q dom hp hx k
  unfold pSl3 at hp
  split at hp
  · rename_i x y z
    split at hp
    · rename_i i j g1 g2
      cases hx with
      | cons h1 r1 =>
        cases r1 with
        | cons h2 r2 =>
          cases r2 with
          | cons h3 r3 =>
            cases r3
            cases h2.int (asInt_some g1); cases h3.int (asInt_some g2)
            exact ⟨_, i, j, rfl, pSl_ok (some i) (some j) M H _ x s _ Q dom hp h1 k⟩
    · cases hp
  · cases hp
theorem sd_slLo {p2 : Pos} (ha : SdA Γ X a fa) (hb : SdA Γ X b fb) : SdE Γ X (.Subscript a (.Slice (some b) none none p2) pos) (m2 pSl1 fa fb) :=
  fun hK σ env r env' w Q he E k => wE.of (pe_slice sl_all pe_wE (po_some pe_wE) po_none) (by unfold tSl tPart tNoPart; rw [← hK.k]; exact run2 pSl1_ok ha hb hK he E k)
theorem sd_slHi {p2 : Pos} (ha : SdA Γ X a fa) (hb : SdA Γ X b fb) : SdE Γ X (.Subscript a (.Slice none (some b) none p2) pos) (m2 pSl2 fa fb) :=
  fun hK σ env r env' w Q he E k => wE.of (pe_slice sl_all pe_wE po_none (po_some pe_wE)) (by unfold tSl tPart tNoPart; rw [← hK.k]; exact run2 pSl2_ok ha hb hK he E k)
def mSlB {Γ : Gam} (fa : AE Γ) (fb fc : Ev Γ) : Ev Γ := fun env =>
  match evA fa env with
  | none => none
  | some (x, env1) => match fb env1 with
    | some (.dat (.int i), env2) => match fc env2 with
      | some (.dat (.int j), env3) => match peek x env3 with
        | none => none
        | some sx => (pSl sx (some i) (some j)).map fun s => (s, env3)
      | _ => none
    | _ => none
theorem sd_slBoth {p2 : Pos} (ha : SdA Γ X a fa) (hb : SdE Γ X b f) (hc : SdE Γ X c g) : SdE Γ X (.Subscript a (.Slice (some b) (some c) none p2) pos) (mSlB fa f g) := by
  intro hK σ env r env' w Q he E k
  refine wE.of (pe_slice sl_all pe_wE (po_some pe_wE) (po_some pe_wE)) ?_
  unfold tSl tPart
  rw [← hK.k]
  unfold mSlB at he
  cases g1 : evA fa env with
  | none => simp only [g1] at he; cases he
  | some q =>
    obtain ⟨x, env1⟩ := q
    simp only [g1] at he
    split at he
    · rename_i i env2 g2
      split at he
      · rename_i j env3 g3
        cases g4 : peek x env3 with
        | none => simp only [g4] at he; cases he
        | some sx =>
          simp only [g4] at he
          cases g5 : pSl sx (some i) (some j) with
          | none => rw [g5] at he; cases he
          | some s1 =>
            rw [g5] at he
            cases he
            refine sda_run ha hK g1 E fun v w1 Fr E1 A1 p1 f1 => ?_
            refine hb hK σ env1 _ _ w1 _ g2 E1 fun u w2 Fr2 E2 T2 p2 f2 => ⟨i, T2.rep.int rfl, ?_⟩
            refine hc hK σ env2 _ _ w2 _ g3 E2 fun u3 w3 Fr3 E3 T3 p3 f3 => ⟨j, T3.rep.int rfl, ?_⟩
            obtain ⟨G1, r1⟩ := ((A1.step E1 p2).step E2 p3).peek E3 g4
            have p13 := (p1.trans p2 E.dom).trans p3 E.dom
            exact pSl_ok (some i) (some j) w3.M w3.H v sx r G1 Q E3.dom g5 r1 (res_of E3 fun v4 w4 Fr4 E4 T4 p4 f4 => k v4 w4 Fr4 E4 T4 (p13.trans p4 E.dom) (f4.back p13))
      · cases he
    · cases he

/-! ### calls of built-ins -/
theorem CallR.imp {fv : Value} {r r' : List V → Hp → VK → Prop} (h : CallR X fv r) (q : ∀ xs H Q, r' xs H Q → r xs H Q) : CallR X fv r' := fun pins s σ H xs us Q I rv h' => h pins s σ H xs us Q I rv (q xs H Q h')
def pN1 {Γ : Gam} (p : Sl Γ → Option (Sl Γ)) : List (Sl Γ) → Option (Sl Γ)
  | [x] => p x
  | _ => none
def pN2 {Γ : Gam} (p : Sl Γ → Sl Γ → Option (Sl Γ)) : List (Sl Γ) → Option (Sl Γ)
  | [x, y] => p x y
  | _ => none
theorem pN1_ok {r : V → Hp → VK → Prop} {p : Sl Γ → Option (Sl Γ)} (h : Prim1 Γ r p) : PrimN Γ (fun xs H Q => ∃ x, xs = [x] ∧ r x H Q) (pN1 p) := by
  intro M H xs ss s Q dom hp hx k
  cases hx with
  | nil => cases hp
  | cons h1 r1 =>
    cases r1 with
    | nil => exact ⟨_, rfl, h M H _ _ s _ Q dom hp h1 k⟩
    | cons _ _ => cases hp
theorem pN2_ok {r : R2} {p : Sl Γ → Sl Γ → Option (Sl Γ)} (h : Prim2 Γ r p) : PrimN Γ (fun xs H Q => ∃ x y, xs = [x, y] ∧ r x y H Q) (pN2 p) := by
  intro M H xs ss s Q dom hp hx k
  cases hx with
  | nil => cases hp
  | cons h1 r1 =>
    cases r1 with
    | nil => cases hp
    | cons h2 r2 =>
      cases r2 with
      | nil => exact ⟨_, _, rfl, h M H _ _ _ _ s _ _ Q dom hp h1 h2 k⟩
      | cons _ _ => cases hp
/-- a built-in function, a built-in type, by what it does with values -/
structure Blt (Γ : Gam) (X : Cx) (fv : Value) (p : List (Sl Γ) → Option (Sl Γ)) : Prop where
  ex : ∃ r, (Gd Γ X → CallR X fv r) ∧ PrimN Γ r p
theorem sd_callB {x : Str} {id : String} {p : Pos} {pr : List (Sl Γ) → Option (Sl Γ)} (h : Blt Γ X (.builtin id) pr) (hg : Gl X x) (hm : X.mg x = none) (hv : bootBuiltins x = some (.builtin id)) (ha : SdL Γ X (e :: es) as) (hn : x ≠ "__name__" := by decide) (hdb : (x == ("__debug__" : Str)) = false := by decide)
    (hpl : (backTo pos (starEach es X.env)).any (·.1) = false := by rfl) : SdE Γ X (.Call (.Name x p) (e :: es) [] pos) (mN pr as) := by
  obtain ⟨r, h1, h2⟩ := h
  exact fun hK σ env s env' w Q he E k => wE.of (pe_callB (h1 hK) hg hm hv (pa_wL ha.ns) hn hdb (ha.ns e List.mem_cons_self es) hpl) (runN h2 ha hK he E k)
theorem sd_callTy {x : Str} {id : String} {p : Pos} {pr : List (Sl Γ) → Option (Sl Γ)} (h : Blt Γ X (.type id) pr) (hg : Gl X x) (hm : X.mg x = none) (hv : bootBuiltins x = some (.type id)) (ha : SdL Γ X (e :: es) as) (hn : x ≠ "__name__" := by decide) (hdb : (x == ("__debug__" : Str)) = false := by decide)
    (hpl : (backTo pos (starEach es X.env)).any (·.1) = false := by rfl) : SdE Γ X (.Call (.Name x p) (e :: es) [] pos) (mN pr as) := by
  obtain ⟨r, h1, h2⟩ := h
  exact fun hK σ env s env' w Q he E k => wE.of (pe_callTy (h1 hK) hg hm hv (pa_wL ha.ns) hn hdb (ha.ns e List.mem_cons_self es) hpl) (runN h2 ha hK he E k)
def pLen {Γ : Gam} (x : Sl Γ) : Option (Sl Γ) :=
  match x.view with
  | some (.lst ds) => some (di ds.length)
  | some (.tup ds) => some (di ds.length)
  | some (.str z) => if z.length ≤ sizeLine then some (di z.length) else none
  | _ => none
theorem b_len : Blt Γ X (.builtin "len") (pN1 pLen) := by
  refine ⟨_, fun g => CallR.imp call_len fun xs H Q h => ?_, pN1_ok (r := fun x H Q => ∃ n : Nat, LenV Γ.K x H n ∧ Q (.int n) H) ?_⟩
  · obtain ⟨x, e, n, h1, h2⟩ := h
    exact ⟨x, n, e, by rw [← g.k]; exact h1, h2⟩
  · intro M H x sx s Gx Q dom hp hx k
    unfold pLen at hp
    split at hp
    · rename_i ds e1
      cases hp
      obtain ⟨p, vs, rfl, hq, r⟩ := hx.list e1
      exact ⟨_, .inl ⟨vs, hq, rfl⟩, by rw [r.length]; exact k.dat (.int _)⟩
    · rename_i ds e1
      cases hp
      obtain ⟨p, vs, rfl, hq, r⟩ := hx.tuple e1
      exact ⟨_, .inr ⟨vs, hq.sq, rfl⟩, by rw [r.length]; exact k.dat (.int _)⟩
    · rename_i z e1
      split at hp
      · rename_i hl
        cases hp
        cases hx.str e1
        exact ⟨_, ⟨hl, rfl⟩, k.dat (.int _)⟩
      · cases hp
    · cases hp
def pAbs {Γ : Gam} (x : Sl Γ) : Option (Sl Γ) :=
  match x.view with
  | some (.int i) => some (di (if i < 0 then -i else i))
  | _ => none
theorem b_abs : Blt Γ X (.builtin "abs") (pN1 pAbs) := by
  refine ⟨_, fun g => CallR.imp call_abs fun xs H Q h => ?_, pN1_ok (r := fun x H Q => ∃ i : Int, x = .int i ∧ Q (.int (if i < 0 then -i else i)) H) ?_⟩
  · obtain ⟨x, e, i, h1, h2⟩ := h
    subst h1
    exact ⟨i, e, h2⟩
  · intro M H x sx s Gx Q dom hp hx k
    unfold pAbs at hp
    split at hp
    · rename_i i e1
      cases hp
      exact ⟨i, hx.int e1, k.dat (.int _)⟩
    · cases hp
def pInt {Γ : Gam} (x : Sl Γ) : Option (Sl Γ) :=
  match x.view with
  | some (.int i) => some (di i)
  | some (.bl b) => some (di (if b then 1 else 0))
  | _ => none
theorem b_int : Blt Γ X (.type "int") (pN1 pInt) := by
  refine ⟨_, fun g => CallR.imp call_int1 fun xs H Q h => ?_, pN1_ok (r := fun x H Q => (∃ i, x = V.int i ∧ Q (.int i) H) ∨ ∃ k, x = V.bl k ∧ Q (.int (if k then 1 else 0)) H) ?_⟩
  · obtain ⟨x, e, h⟩ := h
    rcases h with ⟨i, h1, h2⟩ | ⟨i, h1, h2⟩
    · subst h1; exact .inl ⟨i, e, h2⟩
    · subst h1; exact .inr ⟨i, e, h2⟩
  · intro M H x sx s Gx Q dom hp hx k
    unfold pInt at hp
    split at hp
    · rename_i i e1
      cases hp
      exact .inl ⟨i, hx.int e1, k.dat (.int _)⟩
    · rename_i i e1
      cases hp
      exact .inr ⟨i, hx.bl e1, k.dat (.int _)⟩
    · cases hp
theorem prim_2i {r : R2} {h : Int → Int → Int} (hr : ∀ i j H Q, Q (V.int (h i j)) H → r (.int i) (.int j) H Q) : Prim2 Γ r (p0 fun i j => .int (h i j)) := by
  intro M H x y sx sy s Gx Gy Q dom hp hx hy k
  unfold p0 at hp
  split at hp
  · rename_i i j e1 e2
    cases hp
    cases hx.int e1; cases hy.int e2
    exact hr i j H Q (k.dat (.int _))
  · cases hp
theorem b_max : Blt Γ X (.builtin "max") (pN2 (p0 fun i j => .int (if j > i then j else i))) := by
  refine ⟨_, fun g => CallR.imp (call_max2 g.calm) fun xs H Q h => ?_, pN2_ok (r := fun x y H Q => ∃ i j, x = V.int i ∧ y = V.int j ∧ Q (.int (if j > i then j else i)) H) (prim_2i fun i j H Q q => ⟨i, j, rfl, rfl, q⟩)⟩
  obtain ⟨x, y, e, i, j, h1, h2, h3⟩ := h
  subst h1 h2
  exact ⟨i, j, e, h3⟩
theorem b_min : Blt Γ X (.builtin "min") (pN2 (p0 fun i j => .int (if j < i then j else i))) := by
  refine ⟨_, fun g => CallR.imp (call_min2 g.calm) fun xs H Q h => ?_, pN2_ok (r := fun x y H Q => ∃ i j, x = V.int i ∧ y = V.int j ∧ Q (.int (if j < i then j else i)) H) (prim_2i fun i j H Q q => ⟨i, j, rfl, rfl, q⟩)⟩
  obtain ⟨x, y, e, i, j, h1, h2, h3⟩ := h
  subst h1 h2
  exact ⟨i, j, e, h3⟩
def pList {Γ : Gam} (x : Sl Γ) : Option (Sl Γ) :=
  match x.view with
  | some (.lst ds) => some (.lst ds)
  | some (.tup ds) => some (.lst ds)
  | _ => none
theorem b_list : Blt Γ X (.type "list") (pN1 pList) := by
  refine ⟨_, fun g => CallR.imp call_list_of fun xs H Q h => ?_, pN1_ok (r := fun x H Q => ∃ p ys, x = V.ref p ∧ (SqL Γ.K H p ys ∨ SqT Γ.K H p ys) ∧ ∀ l, H l = none → Q (.ref l) (upd H l (.lst ys))) ?_⟩
  · obtain ⟨x, e, p, ys, h1, h2, h3⟩ := h
    subst h1
    exact ⟨p, ys, e, by rw [← g.k]; exact h2, h3⟩
  · intro M H x sx s Gx Q dom hp hx k
    unfold pList at hp
    split at hp
    · rename_i ds e1
      cases hp
      obtain ⟨p, vs, rfl, hq, r⟩ := hx.list e1
      exact ⟨p, vs, rfl, .inl hq, fun l hl => k.lst r hl⟩
    · rename_i ds e1
      cases hp
      obtain ⟨p, vs, rfl, hq, r⟩ := hx.tuple e1
      exact ⟨p, vs, rfl, .inr hq.sq, fun l hl => k.lst r hl⟩
    · cases hp
def pTuple {Γ : Gam} (x : Sl Γ) : Option (Sl Γ) :=
  match x.view with
  | some (.lst ds) => some (.dat (.tup ds))
  | some (.tup ds) => some (.dat (.tup ds))
  | _ => none
theorem b_tuple : Blt Γ X (.type "tuple") (pN1 pTuple) := by
  refine ⟨_, fun g => CallR.imp call_tuple_of fun xs H Q h => ?_, pN1_ok (r := fun x H Q => ∃ p ys, x = V.ref p ∧ ((SqL Γ.K H p ys ∧ ∀ l, H l = none → Q (.ref l) (upd H l (.tup ys))) ∨ (SqT Γ.K H p ys ∧ Q (.ref p) H))) ?_⟩
  · obtain ⟨x, e, p, ys, h1, h2⟩ := h
    subst h1
    exact ⟨p, ys, e, by rw [← g.k]; exact h2⟩
  · intro M H x sx s Gx Q dom hp hx k
    unfold pTuple at hp
    split at hp
    · rename_i ds e1
      cases hp
      obtain ⟨p, vs, rfl, hq, r⟩ := hx.list e1
      exact ⟨p, vs, rfl, .inl ⟨hq, fun l hl => k.tup dom r hl⟩⟩
    · rename_i ds e1
      cases hp
      obtain ⟨p, vs, rfl, hq, r⟩ := hx.tuple e1
      exact ⟨p, vs, rfl, .inr ⟨hq.sq, k.dat (.tup hq r)⟩⟩
    · cases hp
def allBl : List D → Option (List Bool)
  | [] => some []
  | .bl b :: r => (allBl r).map (b :: ·)
  | _ => none
theorem allBl_ok {M : Addr → Prop} {H : Hp} : ∀ {vs : List V} {ds : List D} {bs : List Bool}, Dats Γ M H vs ds → allBl ds = some bs → vs = bs.map V.bl
  | _, _, _, .nil, e => by cases e; rfl
  | _, _, _, .cons (d := d) (ds := ds) h r, e => by
    cases d with
    | bl b =>
      unfold allBl at e
      cases g : allBl ds with
      | none => rw [g] at e; cases e
      | some es =>
        rw [g] at e
        cases e
        cases h
        rw [allBl_ok r g]
        rfl
    | _ => cases e
def pBools {Γ : Gam} (q : List Bool → Bool) (x : Sl Γ) : Option (Sl Γ) :=
  match x.view with
  | some (.lst ds) => (allBl ds).map fun bs => db (q bs)
  | _ => none
theorem pBools_ok {q : List Bool → Bool} : Prim1 Γ (fun x H Q => ∃ (a : Addr) (bs : List Bool), x = V.ref a ∧ SqL Γ.K H a (bs.map V.bl) ∧ Q (.bl (q bs)) H) (pBools q) := by
  intro M H x sx s Gx Q dom hp hx k
  unfold pBools at hp
  split at hp
  · rename_i ds e1
    cases g : allBl ds with
    | none => rw [g] at hp; cases hp
    | some bs =>
      rw [g] at hp
      cases hp
      obtain ⟨p, vs, rfl, hq, r⟩ := hx.list e1
      have ev := allBl_ok r g
      subst ev
      exact ⟨p, bs, rfl, hq, k.dat (.bl _)⟩
  · cases hp
theorem b_all : Blt Γ X (.builtin "all") (pN1 (pBools fun bs => bs.all id)) := by
  refine ⟨_, fun g => CallR.imp (cr_all g.calm) fun xs H Q h => ?_, pN1_ok pBools_ok⟩
  obtain ⟨x, e, a, bs, h1, h2, h3⟩ := h
  subst h1
  exact ⟨a, bs, e, by rw [← g.k]; exact h2, h3⟩
theorem b_any : Blt Γ X (.builtin "any") (pN1 (pBools fun bs => bs.any id)) := by
  refine ⟨_, fun g => CallR.imp (cr_any g.calm) fun xs H Q h => ?_, pN1_ok pBools_ok⟩
  obtain ⟨x, e, a, bs, h1, h2, h3⟩ := h
  subst h1
  exact ⟨a, bs, e, by rw [← g.k]; exact h2, h3⟩
end
end G

/-! G7: targets, what is walked, statements, for -/
namespace G
open PySem L2

def wG (X : Cx) (tg : Expr) : TG := fun v σ H Q => ∀ (u : Value) pins s, RelV v u → Inv X pins σ H s → wpAny (model X.prog X.w) X.A (assign tg X.env u) (fun _ s' => ∃ σ' H', Inv X pins σ' H' s' ∧ Q σ' H') X.xe s
def wI (X : Cx) (tg iter : Expr) : TI := fun σ H R => ∀ pins s, Inv X pins σ H s → wpAny (model X.prog X.w) X.A (eval iter X.env) (fun v s1 => wpAny (model X.prog X.w) X.A (pyIter v) (PIE X pins σ tg R) X.xe s1) X.xe s
theorem pg_wG {X : Cx} {tg : Expr} : PG X tg (wG X tg) := ⟨fun pins s σ H v u Q I r h => h u pins s r I⟩
theorem pi_wI {X : Cx} {tg iter : Expr} : PI X tg iter (wI X tg iter) := ⟨fun pins s σ H R I h => h pins s I⟩
theorem wG.of {X : Cx} {tg : Expr} {t : TG} {v : V} {σ : St} {H : Hp} {Q : St → Hp → Prop} (h : PG X tg t) (q : t v σ H Q) : wG X tg v σ H Q := fun u pins s r I => h.run pins s σ H v u Q I r q
theorem wI.of {X : Cx} {tg iter : Expr} {t : TI} {σ : St} {H : Hp} {R : It → Hp → Prop} (h : PI X tg iter t) (q : t σ H R) : wI X tg iter σ H R := fun pins s I => h.run pins s σ H R I q

/-- the slots outside A hold what they held -/
structure Agree (A : List Nat) (σ σ' : St) : Prop where
  len : σ'.length = σ.length
  get : ∀ i, i ∉ A → σ'[i]? = σ[i]?
theorem Agree.refl {A : List Nat} {σ : St} : Agree A σ σ := ⟨rfl, fun _ _ => rfl⟩
theorem Agree.trans {A : List Nat} {σ σ1 σ2 : St} (h : Agree A σ σ1) (h' : Agree A σ1 σ2) : Agree A σ σ2 := ⟨h'.len.trans h.len, fun i n => (h'.get i n).trans (h.get i n)⟩
theorem Agree.set {A : List Nat} {σ : St} {i : Nat} {v : Option V} (h : i ∈ A) : Agree A σ (σ.set i v) := ⟨List.length_set, fun j n => List.getElem?_set_ne (fun (e : i = j) => n (e ▸ h))⟩

section
variable {Γ : Gam} {X : Cx} {w : Wd} {σ : St} {env : Env Γ}
theorem ER.set (E : ER Γ w σ env) {v : V} {s : Sl Γ} {Fr : Addr → Prop} (T : TR Γ w v s Fr) {i : Nat} (hi : i < env.length) : ER Γ ⟨w.M, fun j a => if j = i then Fr a else w.F j a, w.H⟩ (σ.set i (some v)) (env.set i s) := by
  refine ⟨by rw [List.length_set, List.length_set]; exact E.len, fun j t hj => ?_, fun j a f => ?_, fun j k a f f' => ?_, E.dom, fun j hj a f => ?_⟩
  · by_cases e : j = i
    · subst e
      rw [List.getElem?_set_self hi] at hj
      cases hj
      refine .inr ⟨v, by rw [List.getElem?_set_self (by rw [← E.len]; exact hi)], ?_⟩
      have ef : (fun a => if j = j then Fr a else w.F j a) = Fr := by funext a; rw [if_pos rfl]
      show SR Γ w.M w.H v s (fun a => if j = j then Fr a else w.F j a)
      rw [ef]
      exact T.rep
    · rw [List.getElem?_set_ne (Ne.symm e)] at hj
      have ef : (fun a => if j = i then Fr a else w.F j a) = w.F j := by funext a; rw [if_neg e]
      rcases E.slot j t hj with ⟨z1, z2⟩ | ⟨u, eu, ru⟩
      · refine .inl ⟨z1, fun a f => ?_⟩
        have f' : (if j = i then Fr a else w.F j a) := f
        rw [if_neg e] at f'
        exact z2 a f'
      · refine .inr ⟨u, by rw [List.getElem?_set_ne (Ne.symm e)]; exact eu, ?_⟩
        show SR Γ w.M w.H u t (fun a => if j = i then Fr a else w.F j a)
        rw [ef]
        exact ru
  · have f' : (if j = i then Fr a else w.F j a) := f
    split at f'
    · exact T.sub a f'
    · exact E.sub j a f'
  · have g : (if j = i then Fr a else w.F j a) := f
    have g' : (if k = i then Fr a else w.F k a) := f'
    split at g
    · rename_i e1
      split at g'
      · rename_i e2; rw [e1, e2]
      · exact absurd g' (T.off a k g)
    · split at g'
      · exact absurd g (T.off a j g')
      · exact E.dis j k a g g'
  · have g : (if j = i then Fr a else w.F j a) := f
    rw [List.length_set] at hj
    split at g
    · omega
    · exact E.out j hj a g
theorem Step.set {w0 : Wd} {i : Nat} {Fr : Addr → Prop} (p : Step w0 w) (f : Fresh w0 Fr) : Step w0 ⟨w.M, fun j a => if j = i then Fr a else w.F j a, w.H⟩ :=
  ⟨p.keep, p.mu, p.src, fun j a g => by
    have g' : (if j = i then Fr a else w.F j a) := g
    split at g'
    · exact f a g'
    · exact p.own j a g', p.live⟩

/-! ### targets -/
abbrev Eg (Γ : Gam) := D → Env Γ → Option (Env Γ)
def SdG (Γ : Gam) (X : Cx) (A : List Nat) (tg : Expr) (t : Eg Γ) : Prop := Gd Γ X → ∀ (σ : St) (env : Env Γ) (d : D) (env' : Env Γ) (w : Wd) (v : V) (Q : St → Hp → Prop), t d env = some env' → ER Γ w σ env → Dat Γ w.M w.H v d →
  (∀ σ' w', ER Γ w' σ' env' → Step w w' → Agree A σ σ' → Q σ' w'.H) → wG X tg v σ w.H Q
def gNm {Γ : Gam} (i : Nat) : Eg Γ := fun d env => if i < env.length then some (env.set i (.dat d)) else none
theorem TR.dat {v : V} {d : D} (h : Dat Γ w.M w.H v d) : TR Γ w v (.dat d) (fun _ => False) := ⟨⟨h, fun _ z => z⟩, fun _ z => z.elim, fun _ _ z => z.elim⟩
theorem sdg_name {A : List Nat} {pos : Pos} (i : Nat) {x : Str} (hA : i ∈ A) (hi : X.N[i]? = some x) (hx : Loc X.env.scope x) (hf : X.fn x = true ∨ X.env.scope.names.lookup x = some .local) : SdG Γ X A (.Name x pos) (gNm i) := by
  intro hK σ env d env' w v Q he E hd k
  refine wG.of (pg_name hK.nd hi hx hf) ?_
  unfold gNm at he
  split at he
  · rename_i hl
    cases he
    exact k _ ⟨w.M, fun j a => if j = i then False else w.F j a, w.H⟩ (E.set (TR.dat hd) hl) ((Step.refl w).set fun _ z => z.elim) (Agree.set hA)
  · cases he
inductive SdGs (Γ : Gam) (X : Cx) (A : List Nat) : List Expr → List (Eg Γ) → Prop
  | nil : SdGs Γ X A [] []
  | cons {e : Expr} {es : List Expr} {t : Eg Γ} {ts : List (Eg Γ)} : SdG Γ X A e t → ((assignEach (e :: es) X.env).map (·.2) = assign e X.env :: (assignEach es X.env).map (·.2)) → SdGs Γ X A es ts → SdGs Γ X A (e :: es) (t :: ts)
def gAll {Γ : Gam} : List (Eg Γ) → List D → Env Γ → Option (Env Γ)
  | [], [], env => some env
  | t :: ts, d :: ds, env => match t d env with
    | none => none
    | some env1 => gAll ts ds env1
  | _, _, _ => none
def gTp {Γ : Gam} (ts : List (Eg Γ)) : Eg Γ := fun d env =>
  match d with
  | .tup ds => gAll ts ds env
  | _ => none
def wGs (X : Cx) : List Expr → TGs
  | [] => gNil
  | e :: es => gCons (wG X e) (wGs X es)
theorem SdGs.pgs {A : List Nat} : ∀ {es : List Expr} {ts : List (Eg Γ)}, SdGs Γ X A es ts → PGs X es (wGs X es)
  | _, _, .nil => pgs_nil
  | _, _, .cons h n r => pgs_cons pg_wG (SdGs.pgs r) n
theorem gAll_len {ts : List (Eg Γ)} : ∀ {ds : List D} {env env' : Env Γ}, gAll ts ds env = some env' → ts.length = ds.length := by
  induction ts with
  | nil => intro ds env env' h; cases ds with | nil => rfl | cons _ _ => cases h
  | cons t ts ih =>
    intro ds env env' h
    cases ds with
    | nil => cases h
    | cons d ds =>
      unfold gAll at h
      cases g : t d env with
      | none => rw [g] at h; cases h
      | some env1 => rw [g] at h; rw [List.length_cons, List.length_cons, ih h]
theorem gAll_run (hK : Gd Γ X) {A : List Nat} : ∀ {es : List Expr} {ts : List (Eg Γ)} {ds : List D} {vs : List V} {σ : St} {env env' : Env Γ} {w : Wd} {Q : St → Hp → Prop}, SdGs Γ X A es ts → gAll ts ds env = some env' → ER Γ w σ env → Dats Γ w.M w.H vs ds →
    (∀ σ' w', ER Γ w' σ' env' → Step w w' → Agree A σ σ' → Q σ' w'.H) → wGs X es vs σ w.H Q
  | _, _, ds, vs, σ, env, env', w, Q, .nil, he, E, hd, k => by
    cases ds with
    | nil => cases he; cases hd; exact ⟨rfl, k σ w E (Step.refl w) Agree.refl⟩
    | cons _ _ => cases he
  | _, _, ds, vs, σ, env, env', w, Q, .cons (e := e) (es := es) (t := t) (ts := ts) h n r, he, E, hd, k => by
    cases ds with
    | nil => cases he
    | cons d ds =>
      unfold gAll at he
      cases g : t d env with
      | none => rw [g] at he; cases he
      | some env1 =>
        rw [g] at he
        cases hd with
        | cons h1 h2 =>
          refine ⟨_, _, rfl, h hK σ env d env1 w _ _ g E h1 fun σ1 w1 E1 p1 a1 => ?_⟩
          exact gAll_run hK r he E1 (h2.go (E.go p1)) fun σ2 w2 E2 p2 a2 => k σ2 w2 E2 (p1.trans p2 E.dom) (a1.trans a2)
theorem sdg_tup {A : List Nat} {es : List Expr} {ts : List (Eg Γ)} {k : Nat} {pos : Pos} (h : SdGs Γ X A es ts) (hn : (assignEach es X.env).length = ts.length) (hst : (assignEach es X.env).findIdx? (·.1) = none) : SdG Γ X A (.Tuple es k pos) (gTp ts) := by
  intro hK σ env d env' w v Q he E hd k
  refine wG.of (pg_tup hK.calm h.pgs hn hst) ?_
  cases d with
  | tup ds =>
    cases hd with
    | tup ht r => exact ⟨_, _, rfl, by rw [← hK.k]; exact ht.sq, by rw [r.length]; exact (gAll_len (show gAll ts ds env = some env' from he)).symm, gAll_run hK h he E r k⟩
  | _ => cases he

/-! ### what is walked -/
/-- J walks the data ds, wherever what is not changed stays -/
structure ItOk (Γ : Gam) (J : It) (ds : List D) (M : Addr → Prop) (H : Hp) : Prop where
  go : ∀ M' H', Go M H M' H' → (∀ a, M' a → H' a ≠ none) → ∀ i d, ds[i]? = some d → J.go i H' ∧ ∀ x H2, J.yld i H' x H2 → (∀ a u, H' a = some u → H2 a = some u) ∧ Dat Γ M' H2 x d
  stop : ∀ M' H', Go M H M' H' → J.stop ds.length H'
theorem Go.trans {M M1 M2 : Addr → Prop} {H H1 H2 : Hp} (a : Go M H M1 H1) (b : Go M1 H1 M2 H2) : Go M H M2 H2 :=
  ⟨fun x u n e => b.keep x u (a.stay x n (by rw [e]; simp)) (a.keep x u n e), fun x n e => by
    cases q : H x with
    | none => exact absurd q e
    | some u => exact b.stay x (a.stay x n e) (by rw [a.keep x u n q]; simp)⟩
theorem ItOk.step {J : It} {ds : List D} {M M' : Addr → Prop} {H H' : Hp} (h : ItOk Γ J ds M H) (g : Go M H M' H') : ItOk Γ J ds M' H' := ⟨fun M2 H2 g2 => h.go M2 H2 (g.trans g2), fun M2 H2 g2 => h.stop M2 H2 (g.trans g2)⟩
abbrev Ei (Γ : Gam) := Env Γ → Option (List D × Env Γ)
def SdI (Γ : Gam) (X : Cx) (tg iter : Expr) (f : Ei Γ) : Prop := Gd Γ X → ∀ (σ : St) (env : Env Γ) (ds : List D) (env' : Env Γ) (w : Wd) (R : It → Hp → Prop), f env = some (ds, env') → ER Γ w σ env →
  (∀ J w', ER Γ w' σ env' → Step w w' → ItOk Γ J ds w'.M w'.H → R J w'.H) → wI X tg iter σ w.H R
def iSeq {Γ : Gam} (f : Ev Γ) : Ei Γ := fun env =>
  match f env with
  | some (.dat (.lst ds), env') => some (ds, env')
  | some (.dat (.tup ds), env') => some (ds, env')
  | some (.scr ns, env') => some (ns.map .int, env')
  | _ => none
theorem ItOk.list {a : Addr} {vs : List V} {ds : List D} {M : Addr → Prop} {H : Hp} (h : LstM Γ.K M H a vs) (r : Dats Γ M H vs ds) : ItOk Γ (Itl Γ.K a) ds M H := by
  refine ⟨fun M' H' g _ i d e => ?_, fun M' H' g => ⟨vs, (h.go g).sq, Nat.le_of_eq r.length⟩⟩
  obtain ⟨v, ev, hv⟩ := r.get e
  refine ⟨⟨vs, v, (h.go g).sq, ev⟩, fun x H2 y => ?_⟩
  obtain ⟨rfl, y⟩ := y
  have q := y vs (h.go g).sq
  rw [ev] at q
  cases q
  exact ⟨fun _ _ z => z, hv.go g⟩
theorem ItOk.tup {a : Addr} {vs : List V} {ds : List D} {M : Addr → Prop} {H : Hp} (h : TupM Γ.K M H a vs) (r : Dats Γ M H vs ds) : ItOk Γ (Itt Γ.K a) ds M H := by
  refine ⟨fun M' H' g _ i d e => ?_, fun M' H' g => ⟨vs, (h.go g).sq, Nat.le_of_eq r.length⟩⟩
  obtain ⟨v, ev, hv⟩ := r.get e
  refine ⟨⟨vs, v, (h.go g).sq, ev⟩, fun x H2 y => ?_⟩
  obtain ⟨rfl, y⟩ := y
  have q := y vs (h.go g).sq
  rw [ev] at q
  cases q
  exact ⟨fun _ _ z => z, hv.go g⟩
theorem sdi_seq {tg iter : Expr} {f : Ev Γ} (h : SdE Γ X iter f) : SdI Γ X tg iter (iSeq f) := by
  intro hK σ env ds env' w R he E k
  unfold iSeq at he
  split at he
  · rename_i ds1 env1 g
    cases he
    refine wI.of (pi_list pe_wE) (h hK σ env _ _ w _ g E fun v w1 Fr E1 T1 p1 f1 => ?_)
    cases T1.rep.1 with
    | lst n hp r => exact ⟨_, rfl, ⟨_, SqL.of hp⟩, by rw [← hK.k]; exact k _ w1 E1 p1 (.list (.inl ⟨n, .inl hp⟩) r)⟩
  · rename_i ds1 env1 g
    cases he
    refine wI.of (pi_tup pe_wE) (h hK σ env _ _ w _ g E fun v w1 Fr E1 T1 p1 f1 => ?_)
    cases T1.rep.1 with
    | tup hp r => exact ⟨_, rfl, ⟨_, by rw [← hK.k]; exact hp.sq⟩, by rw [← hK.k]; exact k _ w1 E1 p1 (.tup hp r)⟩
  · rename_i ns env1 g
    cases he
    refine wI.of (pi_list pe_wE) (h hK σ env _ _ w _ g E fun v w1 Fr E1 T1 p1 f1 => ?_)
    obtain ⟨⟨a, rfl, hl⟩, _⟩ := T1.rep
    exact ⟨a, rfl, ⟨_, by rw [← hK.k]; exact hl.sq⟩, by rw [← hK.k]; exact k _ w1 E1 p1 (.list hl (dats_ints ns))⟩
  · cases he
/-- range(n) -/
def iRng {Γ : Gam} (f : Ev Γ) : Ei Γ := fun env =>
  match f env with
  | some (.dat (.int n), env') => if n < 2 ^ 62 ∧ -(2 ^ 62) ≤ n then some ((List.range n.toNat).map fun (k : Nat) => D.int (k : Int), env') else none
  | _ => none
theorem ItOk.rng {lo : Int} {n : Nat} {M : Addr → Prop} {H : Hp} : ItOk Γ (Itr lo n) ((List.range n).map fun (k : Nat) => D.int (lo + (k : Int))) M H := by
  refine ⟨fun M' H' g _ i d e => ?_, fun M' H' g => ?_⟩
  · rw [List.getElem?_map] at e
    cases q : (List.range n)[i]? with
    | none => rw [q] at e; cases e
    | some j =>
      rw [q] at e
      cases e
      have hi : i < n := by
        have := (List.getElem?_eq_some_iff.mp q).1
        rw [List.length_range] at this
        exact this
      rw [List.getElem?_range hi] at q
      cases q
      refine ⟨hi, fun x H2 y => ?_⟩
      obtain ⟨rfl, rfl⟩ := y
      exact ⟨fun _ _ z => z, .int _⟩
  · show n ≤ _
    rw [List.length_map, List.length_range]
    exact Nat.le_refl _
theorem sdi_range {tg a : Expr} {f : Ev Γ} {p pos : Pos} (hg : Gl X "range") (hm : X.mg "range" = none) (ha : SdE Γ X a f) (hs : NS X a) : SdI Γ X tg (.Call (.Name "range" p) [a] [] pos) (iRng f) := by
  intro hK σ env ds env' w R he E k
  refine wI.of (pi_range1 hg hm (pa_wL (es := [a]) fun e h => by rw [List.mem_singleton.mp h]; exact hs) (hs [])) ?_
  unfold iRng at he
  split at he
  · rename_i n env1 g
    split at he
    · rename_i hn
      cases he
      refine ha hK σ env _ _ w _ g E fun v w1 Fr E1 T1 p1 f1 => ?_
      cases T1.rep.int rfl
      refine ⟨n, rfl, hn.2, hn.1, k _ w1 E1 p1 ?_⟩
      have q := ItOk.rng (Γ := Γ) (lo := 0) (n := n.toNat) (M := w1.M) (H := w1.H)
      simpa using q
    · cases he
  · cases he
end
end G

/-! G8: statements -/
namespace G
open PySem L2

inductive Fl (Γ : Gam) where
  | nx | rt (s : Sl Γ) | bk | ct
abbrev Es (Γ : Gam) := Env Γ → Option (Fl Γ × Env Γ)
def Post (Γ : Gam) (A : List Nat) (σ : St) (w : Wd) (D : Ends) (fl : Fl Γ) (env' : Env Γ) : Prop :=
  match fl with
  | .nx => ∀ σ' w', ER Γ w' σ' env' → Step w w' → Agree A σ σ' → D.nx σ' w'.H
  | .bk => ∀ σ' w', ER Γ w' σ' env' → Step w w' → Agree A σ σ' → D.bk σ' w'.H
  | .ct => ∀ σ' w', ER Γ w' σ' env' → Step w w' → Agree A σ σ' → D.ct σ' w'.H
  | .rt s => ∀ v σ' w' Fr, ER Γ w' σ' env' → TR Γ w' v s Fr → Step w w' → Fresh w Fr → Agree A σ σ' → D.rt v w'.H
def SdS (Γ : Gam) (X : Cx) (A : List Nat) (st : Stmt) (f : Es Γ) : Prop := Gd Γ X → ∀ (σ : St) (env : Env Γ) (fl : Fl Γ) (env' : Env Γ) (w : Wd) (D : Ends), f env = some (fl, env') → ER Γ w σ env → Post Γ A σ w D fl env' → wS X st D σ w.H
def SdSs (Γ : Gam) (X : Cx) (A : List Nat) (st : List Stmt) (f : Es Γ) : Prop := Gd Γ X → ∀ (σ : St) (env : Env Γ) (fl : Fl Γ) (env' : Env Γ) (w : Wd) (D : Ends), f env = some (fl, env') → ER Γ w σ env → Post Γ A σ w D fl env' → wSs X st D σ w.H
def mNx {Γ : Gam} : Es Γ := fun env => some (.nx, env)
def mSeq {Γ : Gam} (f g : Es Γ) : Es Γ := fun env =>
  match f env with
  | some (.nx, env1) => g env1
  | r => r
def mDrop {Γ : Gam} (f : Ev Γ) : Es Γ := fun env => (f env).map fun p => (.nx, p.2)
def mRet {Γ : Gam} (f : Ev Γ) : Es Γ := fun env => (f env).map fun p => (.rt p.1, p.2)
def mSet {Γ : Gam} (i : Nat) (f : Ev Γ) : Es Γ := fun env =>
  match f env with
  | some (s, env1) => if i < env1.length then some (.nx, env1.set i s) else none
  | none => none
def mIfS {Γ : Gam} (c : Et Γ) (f g : Es Γ) : Es Γ := fun env =>
  match c env with
  | none => none
  | some (true, env1) => f env1
  | some (false, env1) => g env1
section
variable {Γ : Gam} {X : Cx} {A : List Nat} {e c : Expr} {st : Stmt} {rest : List Stmt} {f : Ev Γ} {g h' : Es Γ} {pos : Pos}
theorem Post.step {σ σ1 : St} {w w1 : Wd} {D : Ends} {fl : Fl Γ} {env' : Env Γ} (dom : ∀ a, w.M a → w.H a ≠ none) (p : Step w w1) (a : Agree A σ σ1) (h : Post Γ A σ w D fl env') : Post Γ A σ1 w1 D fl env' := by
  cases fl with
  | nx => exact fun σ' w' E q b => h σ' w' E (p.trans q dom) (a.trans b)
  | bk => exact fun σ' w' E q b => h σ' w' E (p.trans q dom) (a.trans b)
  | ct => exact fun σ' w' E q b => h σ' w' E (p.trans q dom) (a.trans b)
  | rt s => exact fun v σ' w' Fr E T q f b => h v σ' w' Fr E T (p.trans q dom) (f.back p) (a.trans b)
theorem sdss_nil : SdSs Γ X A [] mNx := fun hK σ env fl env' w D he E k => by
  cases he
  exact wSs.of pss_nil (k σ w E (Step.refl w) Agree.refl)
theorem sdss_cons (h1 : SdS Γ X A st g) (h2 : SdSs Γ X A rest h') : SdSs Γ X A (st :: rest) (mSeq g h') := by
  intro hK σ env fl env' w D he E k
  refine wSs.of (pss_cons ps_wS pss_wSs) ?_
  unfold mSeq at he
  show wS X st { D with nx := wSs X rest D } σ w.H
  cases g1 : g env with
  | none => simp only [g1] at he; cases he
  | some q =>
    obtain ⟨fl1, env1⟩ := q
    cases fl1 with
    | nx =>
      simp only [g1] at he
      exact h1 hK σ env _ _ w _ g1 E fun σ1 w1 E1 p1 a1 => h2 hK σ1 env1 fl env' w1 D he E1 (k.step E.dom p1 a1)
    | bk => simp only [g1] at he; cases he; exact h1 hK σ env _ _ w _ g1 E k
    | ct => simp only [g1] at he; cases he; exact h1 hK σ env _ _ w _ g1 E k
    | rt s => simp only [g1] at he; cases he; exact h1 hK σ env _ _ w _ g1 E k
theorem sdss_one (h1 : SdS Γ X A st g) : SdSs Γ X A [st] g := by
  intro hK σ env fl env' w D he E k
  exact wSs.of (pss_one ps_wS) (h1 hK σ env fl env' w D he E k)
theorem sds_expr (h : SdE Γ X e f) (hs : swapsWith e none pos.line X.env = pure false := by rfl) : SdS Γ X A (.Expr e pos) (mDrop f) := by
  intro hK σ env fl env' w D he E k
  refine wS.of (ps_expr pe_wE hs) ?_
  unfold mDrop at he
  cases g1 : f env with
  | none => rw [g1] at he; cases he
  | some q =>
    rw [g1] at he
    cases he
    exact h hK σ env _ _ w _ g1 E fun v w1 Fr E1 T1 p1 f1 => k σ w1 E1 p1 Agree.refl
theorem sds_ret (h : SdE Γ X e f) : SdS Γ X A (.Return (some e) pos) (mRet f) := by
  intro hK σ env fl env' w D he E k
  refine wS.of (ps_ret pe_wE) ?_
  unfold mRet at he
  cases g1 : f env with
  | none => rw [g1] at he; cases he
  | some q =>
    rw [g1] at he
    cases he
    exact h hK σ env _ _ w _ g1 E fun v w1 Fr E1 T1 p1 f1 => k v σ w1 Fr E1 T1 p1 f1 Agree.refl
theorem sds_retN : SdS Γ X A (.Return none pos) (fun env => some (.rt (.dat .non), env)) := by
  intro hK σ env fl env' w D he E k
  cases he
  exact wS.of ps_retN (k _ σ w (fun _ => False) E (TR.dat .non) (Step.refl w) (fun _ z => z.elim) Agree.refl)
theorem sds_pass : SdS Γ X A (.Pass pos) mNx := fun hK σ env fl env' w D he E k => by cases he; exact wS.of ps_pass (k σ w E (Step.refl w) Agree.refl)
theorem sds_break : SdS Γ X A (.Break pos) (fun env => some (.bk, env)) := fun hK σ env fl env' w D he E k => by cases he; exact wS.of ps_break (k σ w E (Step.refl w) Agree.refl)
theorem sds_continue : SdS Γ X A (.Continue pos) (fun env => some (.ct, env)) := fun hK σ env fl env' w D he E k => by cases he; exact wS.of ps_continue (k σ w E (Step.refl w) Agree.refl)
/-- what is never come to -/
theorem sds_never : SdS Γ X A st (fun _ => none) := fun _ _ _ _ _ _ _ he => nomatch he
theorem set_run {i : Nat} {σ : St} {env env' : Env Γ} {fl : Fl Γ} {w : Wd} {D : Ends} (hA : i ∈ A) (h : SdE Γ X e f) (hK : Gd Γ X) (he : mSet i f env = some (fl, env')) (E : ER Γ w σ env) (k : Post Γ A σ w D fl env') : tAsg (wE X e) (gName i) D σ w.H := by
  unfold mSet at he
  cases g1 : f env with
  | none => simp only [g1] at he; cases he
  | some q =>
    obtain ⟨s, env1⟩ := q
    simp only [g1] at he
    split at he
    · rename_i hl
      cases he
      refine h hK σ env _ _ w _ g1 E fun v w1 Fr E1 T1 p1 f1 => ?_
      exact k _ ⟨w1.M, fun j a => if j = i then Fr a else w1.F j a, w1.H⟩ (E1.set T1 hl) (p1.set f1) (Agree.set hA)
    · cases he
theorem sds_set (i : Nat) {x : Str} {pos' : Pos} (hA : i ∈ A) (hi : X.N[i]? = some x) (hx : Loc X.env.scope x) (h : SdE Γ X e f) (hs : swapsWith e (some (.Name x pos')) pos.line X.env = pure false := by rfl) (hf : X.fn x = true ∨ X.env.scope.names.lookup x = some .local := by first | exact .inl rfl | exact .inr rfl) :
    SdS Γ X A (.Assign [.Name x pos'] e pos) (mSet i f) := fun hK σ env fl env' w D he E k => wS.of (ps_set hK.nd hi hx pe_wE hs hf) (set_run hA h hK he E k)
theorem sds_if {tc : Et Γ} {a b : List Stmt} (hc : SdT Γ X c tc) (ha : SdSs Γ X A a g) (hb : SdSs Γ X A b h') : SdS Γ X A (.If c a b pos) (mIfS tc g h') := by
  intro hK σ env fl env' w D he E k
  refine wS.of (ps_if pt_wT pss_wSs pss_wSs) ?_
  unfold mIfS at he
  split at he
  · cases he
  · rename_i env1 g1
    refine hc hK σ env _ _ w _ g1 E fun w1 E1 p1 => ?_
    rw [if_pos rfl]
    exact ha hK σ env1 fl env' w1 D he E1 (k.step E.dom p1 Agree.refl)
  · rename_i env1 g1
    refine hc hK σ env _ _ w _ g1 E fun w1 E1 p1 => ?_
    rw [if_neg Bool.false_ne_true]
    exact hb hK σ env1 fl env' w1 D he E1 (k.step E.dom p1 Agree.refl)

/-! ### unpacking: a, b = e -/
def mUnp {Γ : Gam} (t : Eg Γ) (f : Ev Γ) : Es Γ := fun env =>
  match f env with
  | some (.dat d, env1) => (t d env1).map fun e => (.nx, e)
  | _ => none
theorem sds_unp {tg : Expr} {t : Eg Γ} (h : SdE Γ X e f) (hg : SdG Γ X A tg t) (hs : swapsWithSole [tg] e pos.line X.env = pure false := by rfl) (hw : swappedStores [tg] e X.env = pure none := by rfl) (h1 : (assignEach [tg] X.env).map (·.2) = [assign tg X.env] := by rfl) : SdS Γ X A (.Assign [tg] e pos) (mUnp t f) := by
  intro hK σ env fl env' w D he E k
  refine wS.of (ps_asg pe_wE pg_wG hs hw h1) ?_
  unfold mUnp at he
  split at he
  · rename_i d env1 g1
    cases g2 : t d env1 with
    | none => rw [g2] at he; cases he
    | some e2 =>
      rw [g2] at he
      cases he
      refine h hK σ env _ _ w _ g1 E fun v w1 Fr E1 T1 p1 f1 => ?_
      exact hg hK σ env1 d env' w1 v _ g2 E1 T1.rep.1 fun σ2 w2 E2 p2 a2 => k σ2 w2 E2 (p1.trans p2 E.dom) a2
  · cases he
/-- a, b = x, y (two plain locals) -/
def mPar {Γ : Gam} (i j : Nat) (f g : Ev Γ) : Es Γ := fun env =>
  match f env with
  | none => none
  | some (s, env1) => match g env1 with
    | none => none
    | some (t, env2) => if i < env2.length ∧ j < env2.length then some (.nx, (env2.set i s).set j t) else none
theorem sds_par {i j : Nat} {x y : Str} {a b : Expr} {fa fb : Ev Γ} {px py pt : Pos} {kt k2 pt2} (hAi : i ∈ A) (hAj : j ∈ A) (hi : X.N[i]? = some x) (hj : X.N[j]? = some y) (hij : i ≠ j)
    (hx : X.env.scope.names.lookup x = some .local) (hy : X.env.scope.names.lookup y = some .local) (ha : SdE Γ X a fa) (na : NS X a) (hb : SdE Γ X b fb) (nb : NS X b)
    (hw : swappedStores [.Tuple [.Name x px, .Name y py] kt pt] (.Tuple [a, b] k2 pt2) X.env = pure (some [x, y]))
    (hs : swapsWithSole [.Tuple [.Name x px, .Name y py] kt pt] (.Tuple [a, b] k2 pt2) pos.line X.env = pure false := by rfl) :
    SdS Γ X A (.Assign [.Tuple [.Name x px, .Name y py] kt pt] (.Tuple [a, b] k2 pt2) pos) (mPar i j fa fb) := by
  intro hK σ env fl env' w D he E k
  refine wS.of (ps_par hK.calm hK.nd hi hj hij hx hy (pa_wL (es := [a, b]) fun e h => by rcases List.mem_cons.mp h with z | z; (rw [z]; exact na); (rw [List.mem_singleton.mp z]; exact nb)) hw hs) ?_
  unfold mPar at he
  cases g1 : fa env with
  | none => simp only [g1] at he; cases he
  | some q =>
    obtain ⟨s, env1⟩ := q
    simp only [g1] at he
    cases g2 : fb env1 with
    | none => simp only [g2] at he; cases he
    | some q =>
      obtain ⟨t, env2⟩ := q
      simp only [g2] at he
      split at he
      · rename_i hl
        cases he
        refine ha hK σ env _ _ w _ g1 E fun v w1 Fr E1 T1 p1 f1 => ?_
        refine hb hK σ env1 _ _ w1 _ g2 E1 fun u w2 Fr2 E2 T2 p2 f2 => ?_
        refine ⟨v, u, rfl, ?_⟩
        have T1' := TR.step E1 T1 p2
        have dis : ∀ z, Fr z → ¬ Fr2 z := fun z q q' => by
          rcases f2 z q' with ⟨i, r⟩ | r
          · exact T1.off z i q r
          · exact E1.dom z (T1.sub z q) r
        have p12 := p1.trans p2 E.dom
        have E3 := E2.set T1' hl.1
        have T2' : TR Γ ⟨w2.M, fun j a => if j = i then Fr a else w2.F j a, w2.H⟩ u t Fr2 := ⟨T2.rep, T2.sub, fun a l q z => by
          have z' : (if l = i then Fr a else w2.F l a) := z
          split at z'
          · exact dis a z' q
          · exact T2.off a l q z'⟩
        have E4 := E3.set T2' (i := j) (by rw [List.length_set]; exact hl.2)
        exact k _ ⟨w2.M, fun l a => if l = j then Fr2 a else if l = i then Fr a else w2.F l a, w2.H⟩ E4 ((p12.set f1).set (f2.back p1)) ((Agree.set hAi).trans (Agree.set hAj))
      · cases he
end
end G

/-! G9: for loops and comprehensions -/
namespace G
open PySem L2

def forL {Γ : Gam} (t : Eg Γ) (g : Es Γ) : List D → Env Γ → Option (Fl Γ × Env Γ)
  | [], env => some (.nx, env)
  | d :: ds, env => match t d env with
    | none => none
    | some e1 => match g e1 with
      | some (.nx, e2) => forL t g ds e2
      | some (.ct, e2) => forL t g ds e2
      | some (.bk, e2) => some (.nx, e2)
      | some (.rt s, e2) => some (.rt s, e2)
      | none => none
def mFor {Γ : Gam} (fi : Ei Γ) (t : Eg Γ) (g : Es Γ) : Es Γ := fun env =>
  match fi env with
  | none => none
  | some (ds, env1) => forL t g ds env1
theorem Go.refl (M : Addr → Prop) (H : Hp) : Go M H M H := ⟨fun _ _ _ h => h, fun _ n _ => n⟩
section
variable {Γ : Gam} {X : Cx} {A : List Nat} {tg iter : Expr} {body : List Stmt} {fi : Ei Γ} {t : Eg Γ} {g : Es Γ} {pos : Pos}
theorem sds_for (hp : PassesOwn (model X.prog X.w) X.A X.env X.xe) (hi : SdI Γ X tg iter fi) (hg : SdG Γ X A tg t) (hb : SdSs Γ X A body g) (hs : ∀ x, foldedSetIterable iter X.env x = pure x := by intro _; rfl) : SdS Γ X A (.For tg iter body [] pos) (mFor fi t g) := by
  intro hK σ env fl envF w D he E k
  refine wS.of (ps_for hp hK.calm pi_wI pg_wG pss_wSs hs) ?_
  unfold mFor at he
  cases g1 : fi env with
  | none => simp only [g1] at he; cases he
  | some q =>
    obtain ⟨ds, env1⟩ := q
    simp only [g1] at he
    refine hi hK σ env ds env1 w _ g1 E fun J w1 E1 p1 ok1 => ?_
    refine ⟨fun i m σ' H' => m = ds.length - i ∧ i ≤ ds.length ∧ ∃ env' w', w'.H = H' ∧ ER Γ w' σ' env' ∧ Step w w' ∧ ItOk Γ J ds w'.M w'.H ∧ Agree A σ σ' ∧ forL t g (ds.drop i) env' = some (fl, envF),
      ⟨ds.length, rfl, Nat.zero_le _, env1, w1, rfl, E1, p1, ok1, Agree.refl, he⟩, ?_⟩
    rintro i m σ2 H2 ⟨rfl, hi2, env2, w2, rfl, E2, p2, ok2, a2, he2⟩
    by_cases hlt : i < ds.length
    · refine .inr ?_
      have hd : ds[i]? = some ds[i] := List.getElem?_eq_getElem hlt
      rw [List.drop_eq_getElem_cons hlt] at he2
      unfold forL at he2
      obtain ⟨go, yl⟩ := ok2.go w2.M w2.H (Go.refl _ _) E2.dom i _ hd
      cases g2 : t ds[i] env2 with
      | none => simp only [g2] at he2; cases he2
      | some e1 =>
        simp only [g2] at he2
        refine ⟨go, fun σ' H' => ∃ env' w', w'.H = H' ∧ ER Γ w' σ' env' ∧ Step w w' ∧ ItOk Γ J ds w'.M w'.H ∧ Agree A σ σ' ∧ forL t g (ds.drop (i + 1)) env' = some (fl, envF), ?_, ?_⟩
        · rintro σ' H' ⟨env', w', r⟩
          exact ⟨ds.length - (i + 1), by omega, rfl, hlt, env', w', r⟩
        · intro x H3 y
          obtain ⟨ext, hx⟩ := yl x H3 y
          obtain ⟨E3, p3⟩ := E2.grow (Fr := fun _ => False) ext (fun _ z => z.elim)
          have p23 := p2.trans p3 E.dom
          have hx' : Dat Γ (fun a => w2.M a ∨ False) H3 x ds[i] := hx.go go_or
          refine hg hK σ2 env2 ds[i] e1 ⟨fun a => w2.M a ∨ False, w2.F, H3⟩ x _ g2 E3 hx' fun σ4 w4 E4 p4 a4 => ?_
          have p24 := p23.trans p4 E.dom
          have a24 := a2.trans a4
          have ok4 := (ok2.step (E2.go p3)).step (E3.go p4)
          cases g3 : g e1 with
          | none => simp only [g3] at he2; cases he2
          | some q =>
            obtain ⟨fl1, e2⟩ := q
            cases fl1 with
            | nx =>
              simp only [g3] at he2
              exact hb hK σ4 e1 _ e2 w4 _ g3 E4 fun σ5 w5 E5 p5 a5 => ⟨e2, w5, rfl, E5, p24.trans p5 E.dom, ok4.step (E4.go p5), a24.trans a5, he2⟩
            | ct =>
              simp only [g3] at he2
              exact hb hK σ4 e1 _ e2 w4 _ g3 E4 fun σ5 w5 E5 p5 a5 => ⟨e2, w5, rfl, E5, p24.trans p5 E.dom, ok4.step (E4.go p5), a24.trans a5, he2⟩
            | bk =>
              simp only [g3] at he2
              cases he2
              exact hb hK σ4 e1 _ _ w4 _ g3 E4 fun σ5 w5 E5 p5 a5 => k σ5 w5 E5 (p24.trans p5 E.dom) (a24.trans a5)
            | rt s =>
              simp only [g3] at he2
              cases he2
              exact hb hK σ4 e1 _ _ w4 _ g3 E4 fun v σ5 w5 Fr E5 T5 p5 f5 a5 => k v σ5 w5 Fr E5 T5 (p24.trans p5 E.dom) (f5.back p24) (a24.trans a5)
    · have ei : i = ds.length := by omega
      subst ei
      rw [List.drop_length] at he2
      cases he2
      exact .inl ⟨ok2.stop w2.M w2.H (Go.refl _ _), k σ2 w2 E2 p2 a2⟩
end

/-! ### comprehensions -/
def nonOwn {Γ : Gam} : Sl Γ → Bool
  | .none => true
  | .dat _ => true
  | .scr _ => true
  | _ => false
def wipeL {Γ : Gam} (env : Env Γ) : List Nat → Env Γ
  | [] => env
  | v :: vs => (wipeL env vs).set v .none
def wipeE {Γ : Gam} (vs : List Nat) (env : Env Γ) : Option (Env Γ) :=
  if (vs.all fun v => match env[v]? with | some s => nonOwn s | none => true) = true then some (wipeL env vs) else none
def backE {Γ : Gam} (env1 env : Env Γ) : List Nat → Env Γ
  | [] => env
  | v :: vs => (backE env1 env vs).set v ((env1[v]?).getD .none)
def compL {Γ : Gam} (vs : List Nat) (t : Eg Γ) (tc : Et Γ) (f : Ev Γ) : List D → Env Γ → Option (List D × Env Γ)
  | [], env => some ([], env)
  | d :: ds, env => match t d env with
    | none => none
    | some e1 => match tc e1 with
      | none => none
      | some (false, e2) => match wipeE vs e2 with
        | none => none
        | some e3 => compL vs t tc f ds e3
      | some (true, e2) => match f e2 with
        | some (.dat y, e3) => match wipeE vs e3 with
          | none => none
          | some e4 => (compL vs t tc f ds e4).map fun p => (y :: p.1, p.2)
        | _ => none
def mLc {Γ : Gam} (fi : Ei Γ) (vs : List Nat) (t : Eg Γ) (tc : Et Γ) (f : Ev Γ) : Ev Γ := fun env =>
  match fi env with
  | none => none
  | some (ds, env1) => if ds.length ≤ sizeLine then
      match wipeE vs env1 with
      | none => none
      | some e2 => match compL vs t tc f ds e2 with
        | none => none
        | some (ys, e3) => some (.lst ys, backE env1 e3 vs)
    else none
section
variable {Γ : Gam} {X : Cx}
theorem wipeL_len (env : Env Γ) : ∀ vs : List Nat, (wipeL env vs).length = env.length
  | [] => rfl
  | v :: vs => by unfold wipeL; rw [List.length_set, wipeL_len env vs]
theorem backE_len (env1 env : Env Γ) : ∀ vs : List Nat, (backE env1 env vs).length = env.length
  | [] => rfl
  | v :: vs => by unfold backE; rw [List.length_set, backE_len env1 env vs]
theorem wipeL_get (env : Env Γ) (j : Nat) : ∀ vs : List Nat, (wipeL env vs)[j]? = if j ∈ vs then (env[j]?).map (fun _ => Sl.none) else env[j]?
  | [] => by simp [wipeL]
  | v :: vs => by
    unfold wipeL
    rw [List.getElem?_set]
    by_cases e : v = j
    · subst e
      simp only [if_true, List.mem_cons_self, wipeL_len]
      by_cases hl : v < env.length
      · simp [hl]
      · simp [hl]
    · rw [if_neg e, wipeL_get env j vs]
      have : (j ∈ v :: vs) ↔ j ∈ vs := by simp [Ne.symm e]
      simp only [this]
theorem wipe_get (σ : St) (j : Nat) : ∀ vs : List Nat, (wipe σ vs)[j]? = if j ∈ vs then (σ[j]?).map (fun _ => none) else σ[j]?
  | [] => by simp [wipe]
  | v :: vs => by
    unfold wipe
    rw [List.getElem?_set]
    by_cases e : v = j
    · subst e
      simp only [if_true, List.mem_cons_self, wipe_length]
      by_cases hl : v < σ.length
      · simp [hl]
      · simp [hl]
    · rw [if_neg e, wipe_get σ j vs]
      have : (j ∈ v :: vs) ↔ j ∈ vs := by simp [Ne.symm e]
      simp only [this]
theorem backE_get (env1 env : Env Γ) (j : Nat) : ∀ vs : List Nat, (backE env1 env vs)[j]? = if j ∈ vs then (env[j]?).map (fun _ => (env1[j]?).getD .none) else env[j]?
  | [] => by simp [backE]
  | v :: vs => by
    unfold backE
    rw [List.getElem?_set]
    by_cases e : v = j
    · subst e
      simp only [if_true, List.mem_cons_self, backE_len]
      by_cases hl : v < env.length
      · simp [hl]
      · simp [hl]
    · rw [if_neg e, backE_get env1 env j vs]
      have : (j ∈ v :: vs) ↔ j ∈ vs := by simp [Ne.symm e]
      simp only [this]
theorem ER.noF {w : Wd} {σ : St} {env : Env Γ} (E : ER Γ w σ env) {j : Nat} (h : ∀ s, env[j]? = some s → nonOwn s = true) : ∀ a, ¬ w.F j a := fun a f => by
  cases e : env[j]? with
  | none => exact E.out j (List.getElem?_eq_none_iff.mp e) a f
  | some s =>
    have hs := h s e
    rcases E.slot j s e with ⟨_, z⟩ | ⟨v, _, r⟩
    · exact z a f
    · cases s with
      | none => exact r
      | dat d => exact r.2 a f
      | scr ns => exact r.2 a f
      | _ => cases hs
theorem wipeE_some {vs : List Nat} {env e : Env Γ} (h : wipeE vs env = some e) : e = wipeL env vs ∧ ∀ j ∈ vs, ∀ s, env[j]? = some s → nonOwn s = true := by
  unfold wipeE at h
  split at h
  · rename_i c
    cases h
    refine ⟨rfl, fun j hj s e => ?_⟩
    have q := List.all_eq_true.mp c j hj
    rw [e] at q
    exact q
  · cases h
theorem ER.wipe {w : Wd} {σ : St} {env e : Env Γ} {vs : List Nat} (E : ER Γ w σ env) (h : wipeE vs env = some e) : ER Γ w (wipe σ vs) e ∧ ∀ j ∈ vs, ∀ a, ¬ w.F j a := by
  obtain ⟨rfl, hn⟩ := wipeE_some h
  refine ⟨⟨by rw [wipeL_len, wipe_length]; exact E.len, fun j s hj => ?_, E.sub, E.dis, E.dom, fun j hj => E.out j (by rw [wipeL_len] at hj; exact hj)⟩, fun j hj => E.noF (hn j hj)⟩
  rw [wipeL_get] at hj
  split at hj
  · rename_i hv
    cases q : env[j]? with
    | none => rw [q] at hj; cases hj
    | some s' =>
      rw [q] at hj
      cases hj
      exact .inl ⟨rfl, E.noF (hn j hv)⟩
  · rename_i hv
    rcases E.slot j s hj with z | ⟨v, ev, r⟩
    · exact .inl z
    · exact .inr ⟨v, by rw [wipe_get, if_neg hv]; exact ev, r⟩
theorem ER.back {w1 w3 : Wd} {σ : St} {env1 e3 : Env Γ} {vs : List Nat} (E1 : ER Γ w1 σ env1) (hn : ∀ j ∈ vs, ∀ s, env1[j]? = some s → nonOwn s = true) (E3 : ER Γ w3 (L2.wipe σ vs) e3) (hF : ∀ j ∈ vs, ∀ a, ¬ w3.F j a) (g : Go w1.M w1.H w3.M w3.H) : ER Γ w3 σ (backE env1 e3 vs) := by
  have hl : e3.length = σ.length := by have := E3.len; rw [wipe_length] at this; exact this
  refine ⟨by rw [backE_len]; exact hl, fun j s hj => ?_, E3.sub, E3.dis, E3.dom, fun j hj => E3.out j (by rw [backE_len] at hj; exact hj)⟩
  rw [backE_get] at hj
  split at hj
  · rename_i hv
    cases q : e3[j]? with
    | none => rw [q] at hj; cases hj
    | some s' =>
      rw [q] at hj
      simp only [Option.map_some, Option.some.injEq] at hj
      subst hj
      cases q1 : env1[j]? with
      | none => exact .inl ⟨rfl, hF j hv⟩
      | some s1 =>
        show SltR Γ w3 σ j s1
        have ns := hn j hv s1 q1
        rcases E1.slot j s1 q1 with ⟨z1, z2⟩ | ⟨v, ev, r⟩
        · exact .inl ⟨z1, hF j hv⟩
        · refine .inr ⟨v, ev, ?_⟩
          cases s1 with
          | none => exact r
          | dat d => exact ⟨r.1.go g, hF j hv⟩
          | scr ns => obtain ⟨⟨a, e, h⟩, _⟩ := r; exact ⟨⟨a, e, h.go g⟩, hF j hv⟩
          | _ => cases ns
  · rename_i hv
    rcases E3.slot j s hj with z | ⟨v, ev, r⟩
    · exact .inl z
    · rw [wipe_get, if_neg hv] at ev
      exact .inr ⟨v, ev, r⟩
theorem agree_wipe {vs : List Nat} {σ σ' : St} (a : Agree vs (wipe σ vs) σ') : wipe σ' vs = wipe σ vs := by
  have hl := a.len
  rw [wipe_length] at hl
  apply List.ext_getElem?
  intro j
  rw [wipe_get, wipe_get]
  split
  · rename_i hv
    by_cases h : j < σ.length
    · rw [List.getElem?_eq_getElem h, List.getElem?_eq_getElem (by rw [hl]; exact h)]; rfl
    · rw [List.getElem?_eq_none_iff.mpr (by omega), List.getElem?_eq_none_iff.mpr (by omega)]
  · rename_i hv
    rw [a.get j hv, wipe_get, if_neg hv]
/-- an owned thing that no slot owns is written -/
theorem ER.write {w : Wd} {σ : St} {env : Env Γ} {p : Addr} {o : HO} (E : ER Γ w σ env) (m : w.M p) (f : ∀ i, ¬ w.F i p) : ER Γ ⟨w.M, w.F, upd w.H p o⟩ σ env ∧ Go w.M w.H w.M (upd w.H p o) := by
  have g : Go w.M w.H w.M (upd w.H p o) := ⟨fun a u n e => by rw [upd_ne (fun (z : a = p) => n (z ▸ m))]; exact e, fun _ n _ => n⟩
  refine ⟨⟨E.len, fun j s hj => ?_, E.sub, E.dis, fun a h => ?_, E.out⟩, g⟩
  · rcases E.slot j s hj with z | ⟨v, ev, r⟩
    · exact .inl z
    · exact .inr ⟨v, ev, r.go g fun a u fa e => by show upd w.H p o a = some u; rw [upd_ne (fun (z : a = p) => f j (z ▸ fa))]; exact e⟩
  · by_cases e : a = p
    · show upd w.H p o a ≠ none
      rw [e, upd_same]; simp
    · show upd w.H p o a ≠ none
      rw [upd_ne e]; exact E.dom a h
theorem Step.write {w w6 : Wd} {p : Addr} {o : HO} (s : Step w w6) (h : w.H p = none) : Step w ⟨w6.M, w6.F, upd w6.H p o⟩ :=
  ⟨fun a u n e => by show upd w6.H p o a = some u; rw [upd_ne (ne_of_none e h)]; exact s.keep a u n e, s.mu, s.src, s.own, fun a e => by
    show upd w6.H p o a ≠ none
    by_cases q : a = p
    · exact absurd (q ▸ h) e
    · rw [upd_ne q]; exact s.live a e⟩
def AllB (X : Cx) (scope : Scope) (P : Cx → Prop) : Prop := ∀ (s : Shared) (H : Hp) (C : Addr) (cl : List (Str × Addr)) (fp : List Addr), P (X.blk s H scope (compEnvC scope cl C X.env) fp)
theorem Gd.blk {scope : Scope} (g : Gd Γ X) : AllB X scope fun Y => Gd Γ Y := fun _ _ _ _ _ => ⟨g.k, g.calm, g.un, g.nd⟩
def bG (X : Cx) (scope : Scope) (tg : Expr) : TG := fun v σ H Q => AllB X scope fun Y => wG Y tg v σ H Q
def bE (X : Cx) (scope : Scope) (e : Expr) : TE := fun σ H Q => AllB X scope fun Y => wE Y e σ H Q
def bT (X : Cx) (scope : Scope) (e : Expr) : TT := fun σ H Q => AllB X scope fun Y => wT Y e σ H Q
inductive SdC (Γ : Gam) (X : Cx) (scope : Scope) : List Expr → TT → Et Γ → Prop
  | nil : SdC Γ X scope [] tYes (fun env => some (true, env))
  | one {c : Expr} {tc : Et Γ} : AllB X scope (fun Y => SdT Γ Y c tc) → SdC Γ X scope [c] (bT X scope c) tc
theorem SdC.run {scope : Scope} {ifs : List Expr} {tt : TT} {tc : Et Γ} (h : SdC Γ X scope ifs tt tc) (hK : Gd Γ X) {σ : St} {env env' : Env Γ} {b : Bool} {w : Wd} {Q : Bool → Hp → Prop} (he : tc env = some (b, env')) (E : ER Γ w σ env) (k : ∀ w', ER Γ w' σ env' → Step w w' → Q b w'.H) : tt σ w.H Q := by
  cases h with
  | nil => cases he; exact k w E (Step.refl w)
  | one hc => exact fun s H C cl fp => hc s H C cl fp (hK.blk s H C cl fp) σ env b env' w Q he E k
theorem SdC.pts {scope : Scope} {ifs : List Expr} {tt : TT} {tc : Et Γ} (h : SdC Γ X scope ifs tt tc) : AllB X scope fun Y => PTs Y ifs tt := fun s H C cl fp => by
  cases h with
  | nil => exact pts_nil
  | one hc => exact pts_one ⟨fun pins s' σ H' Q I q => q s H C cl fp pins s' I⟩
/-- J walks ds in every world that comes behind w by way of w1 -/
structure ItW (Γ : Gam) (J : It) (ds : List D) (w w1 : Wd) : Prop where
  go : ∀ w', Step w w' → Go w1.M w1.H w'.M w'.H → (∀ a, w'.M a → w'.H a ≠ none) → ∀ i d, ds[i]? = some d → J.go i w'.H ∧ ∀ x H2, J.yld i w'.H x H2 → (∀ a u, w'.H a = some u → H2 a = some u) ∧ Dat Γ w'.M H2 x d
  stop : ∀ w', Step w w' → Go w1.M w1.H w'.M w'.H → J.stop ds.length w'.H
theorem ItOk.w {J : It} {ds : List D} {w w1 : Wd} (h : ItOk Γ J ds w1.M w1.H) : ItW Γ J ds w w1 := ⟨fun w' _ g dom => h.go w'.M w'.H g dom, fun w' _ g => h.stop w'.M w'.H g⟩
theorem lc_runX {tg iter elt : Expr} {scope : Scope} {ifs : List Expr} {tt : TT} {tc : Et Γ} {fi : Ei Γ} {t : Eg Γ} {f : Ev Γ} {vs : List Nat} {σ : St} {env envF : Env Γ} {r : Sl Γ} {w : Wd} {Q : VK} (hK : Gd Γ X)
    (hi : ∀ ds env1, fi env = some (ds, env1) → ∀ R : It → Hp → Prop, (∀ J w1, ER Γ w1 σ env1 → Step w w1 → ItW Γ J ds w w1 → R J w1.H) → wI X tg iter σ w.H R) (hg : AllB X scope fun Y => SdG Γ Y vs tg t) (hc : SdC Γ X scope ifs tt tc) (hf : AllB X scope fun Y => SdE Γ Y elt f) (he : mLc fi vs t tc f env = some (r, envF)) (E : ER Γ w σ env)
    (k : ∀ v w' Fr, ER Γ w' σ envF → TR Γ w' v r Fr → Step w w' → Fresh w Fr → Q v w'.H) : tLc (wI X tg iter) (bG X scope tg) tt (bE X scope elt) vs σ w.H Q := by
  unfold mLc at he
  cases g1 : fi env with
  | none => simp only [g1] at he; cases he
  | some q =>
    obtain ⟨ds, env1⟩ := q
    simp only [g1] at he
    split at he
    · rename_i hlen
      cases g2 : wipeE vs env1 with
      | none => simp only [g2] at he; cases he
      | some e2 =>
        simp only [g2] at he
        cases g3 : compL vs t tc f ds e2 with
        | none => simp only [g3] at he; cases he
        | some q =>
          obtain ⟨ys, e3⟩ := q
          simp only [g3] at he
          cases he
          refine hi ds env1 g1 _ fun J w1 E1 p1 ok1 => ?_
          intro Dd hD
          have hDw : w.H Dd = none := by
            cases q : w.H Dd with
            | none => rfl
            | some u => exact absurd hD (p1.live Dd (by rw [q]; simp))
          obtain ⟨E1w, hF1⟩ := E1.wipe g2
          obtain ⟨E1g, p1g⟩ := E1w.grow (Fr := fun a => a = Dd) (H' := upd w1.H Dd (.lst [])) (upd_keep hD) (fun a z => by subst z; exact ⟨hD, by rw [upd_same]; simp⟩)
          have hn1 := (wipeE_some g2).2
          refine ⟨fun i m H' => m = ds.length - i ∧ i ≤ ds.length ∧ ∃ env' w' acc accD ys2, w'.H = H' ∧ ER Γ w' (L2.wipe σ vs) env' ∧ (∀ j ∈ vs, ∀ a, ¬ w'.F j a) ∧ Step w w' ∧ Go w1.M w1.H w'.M w'.H ∧ w'.H Dd = some (.lst acc) ∧ Dats Γ w'.M w'.H acc accD ∧ w'.M Dd ∧ (∀ j, ¬ w'.F j Dd) ∧ accD.length ≤ i ∧ compL vs t tc f (ds.drop i) env' = some (ys2, e3) ∧ ys = accD ++ ys2,
            ⟨ds.length, rfl, Nat.zero_le _, e2, ⟨fun a => w1.M a ∨ a = Dd, w1.F, upd w1.H Dd (.lst [])⟩, [], [], ys, rfl, E1g, hF1, p1.trans p1g E.dom, E1w.go p1g, upd_same, .nil, .inr rfl, fun j z => E1.dom Dd (E1.sub j Dd z) hD, Nat.zero_le _, g3, rfl⟩, ?_⟩
          rintro i m H2 ⟨rfl, hi2, env2, w2, acc, accD, ys2, rfl, E2, hF2, p2, go2, hD2, r2, m2, o2, l2, he2, ey⟩
          by_cases hlt : i < ds.length
          · refine .inr ?_
            have hd : ds[i]? = some ds[i] := List.getElem?_eq_getElem hlt
            rw [List.drop_eq_getElem_cons hlt] at he2
            unfold compL at he2
            obtain ⟨go, yl⟩ := ok1.go w2 p2 go2 E2.dom i _ hd
            cases g4 : t ds[i] env2 with
            | none => simp only [g4] at he2; cases he2
            | some e4 =>
              simp only [g4] at he2
              refine ⟨go, fun H' => ∃ env' w' acc accD ys2, w'.H = H' ∧ ER Γ w' (L2.wipe σ vs) env' ∧ (∀ j ∈ vs, ∀ a, ¬ w'.F j a) ∧ Step w w' ∧ Go w1.M w1.H w'.M w'.H ∧ w'.H Dd = some (.lst acc) ∧ Dats Γ w'.M w'.H acc accD ∧ w'.M Dd ∧ (∀ j, ¬ w'.F j Dd) ∧ accD.length ≤ i + 1 ∧ compL vs t tc f (ds.drop (i + 1)) env' = some (ys2, e3) ∧ ys = accD ++ ys2, ?_, ?_⟩
              · rintro H' ⟨env', w', rr⟩
                exact ⟨ds.length - (i + 1), by omega, rfl, hlt, env', w', rr⟩
              · intro x H3 y
                obtain ⟨ext, hx⟩ := yl x H3 y
                obtain ⟨E3, p3⟩ := E2.grow (Fr := fun _ => False) ext (fun _ z => z.elim)
                have hx' : Dat Γ (fun a => w2.M a ∨ False) H3 x ds[i] := hx.go go_or
                intro s5 H5 C5 cl5 fp5
                refine hg s5 H5 C5 cl5 fp5 (hK.blk s5 H5 C5 cl5 fp5) (L2.wipe σ vs) env2 ds[i] e4 ⟨fun a => w2.M a ∨ False, w2.F, H3⟩ x _ g4 E3 hx' fun σ4 w4 E4 p4 a4 => ?_
                have ew := agree_wipe a4
                refine ⟨ew, ?_⟩
                cases g5 : tc e4 with
                | none => simp only [g5] at he2; cases he2
                | some q =>
                  obtain ⟨b, e5⟩ := q
                  simp only [g5] at he2
                  refine hc.run hK g5 E4 fun w5 E5 p5 => ?_
                  have p25 : Step w2 w5 := (p3.trans p4 E2.dom).trans p5 E2.dom
                  cases b with
                  | false =>
                    rw [if_neg Bool.false_ne_true]
                    cases g6 : wipeE vs e5 with
                    | none => simp only [g6] at he2; cases he2
                    | some e6 =>
                      simp only [g6] at he2
                      obtain ⟨E6, hF6⟩ := E5.wipe g6
                      rw [ew] at E6
                      exact ⟨e6, w5, acc, accD, ys2, rfl, E6, hF6, p2.trans p25 E.dom, go2.trans (E2.go p25), p25.keep Dd _ o2 hD2, r2.go (E2.go p25), p25.mu Dd o2 m2, p25.off o2 (by rw [hD2]; simp), by omega, he2, ey⟩
                  | true =>
                    rw [if_pos rfl]
                    intro s6 H6 C6 cl6 fp6
                    simp only at he2
                    cases g6 : f e5 with
                    | none => simp only [g6] at he2; cases he2
                    | some q =>
                      obtain ⟨sy, e6⟩ := q
                      cases sy with
                      | dat y =>
                        simp only [g6] at he2
                        cases g7 : wipeE vs e6 with
                        | none => simp only [g7] at he2; cases he2
                        | some e7 =>
                          simp only [g7] at he2
                          cases g8 : compL vs t tc f (ds.drop (i + 1)) e7 with
                          | none => rw [g8] at he2; cases he2
                          | some q =>
                            obtain ⟨ys3, e8⟩ := q
                            rw [g8] at he2
                            cases he2
                            refine hf s6 H6 C6 cl6 fp6 (hK.blk s6 H6 C6 cl6 fp6) σ4 e5 _ e6 w5 _ g6 E5 fun v w6 Fr E6 T6 p6 f6 => ?_
                            have p26 := p25.trans p6 E2.dom
                            have o6 := p26.off o2 (by rw [hD2]; simp)
                            have m6 := p26.mu Dd o2 m2
                            obtain ⟨E7, hF7⟩ := E6.wipe g7
                            rw [ew] at E7
                            obtain ⟨E8, go8⟩ := E7.write (o := .lst (acc ++ [v])) m6 o6
                            have r6 := r2.go (E2.go p26)
                            refine ⟨acc, p26.keep Dd _ o2 hD2, by have := r2.length; omega, e7, ⟨w6.M, w6.F, upd w6.H Dd (.lst (acc ++ [v]))⟩, acc ++ [v], accD ++ [y], ys3, rfl, E8, hF7, (p2.trans p26 E.dom).write hDw, (go2.trans (E2.go p26)).trans go8, upd_same, (r6.append (.cons T6.rep.1 .nil)).go go8, m6, o6, by rw [List.length_append]; simp; omega, g8, by rw [ey]; simp⟩
                      | _ => simp only [g6] at he2; cases he2
          · have ei : i = ds.length := by omega
            subst ei
            rw [List.drop_length] at he2
            cases he2
            rw [List.append_nil] at ey
            subst ey
            refine .inl ⟨ok1.stop w2 p2 go2, ?_⟩
            exact k (.ref Dd) w2 (fun a => a = Dd) (E1.back hn1 E2 hF2 go2) ⟨⟨Dd, acc, rfl, hD2, r2, fun a => Iff.rfl⟩, fun a z => z ▸ m2, fun a j z => z ▸ o2 j⟩ p2 fun a z => .inr (z ▸ hDw)
    · cases he
theorem lc_run {tg iter elt : Expr} {scope : Scope} {ifs : List Expr} {tt : TT} {tc : Et Γ} {fi : Ei Γ} {t : Eg Γ} {f : Ev Γ} {vs : List Nat} {σ : St} {env envF : Env Γ} {r : Sl Γ} {w : Wd} {Q : VK} (hK : Gd Γ X)
    (hi : SdI Γ X tg iter fi) (hg : AllB X scope fun Y => SdG Γ Y vs tg t) (hc : SdC Γ X scope ifs tt tc) (hf : AllB X scope fun Y => SdE Γ Y elt f) (he : mLc fi vs t tc f env = some (r, envF)) (E : ER Γ w σ env)
    (k : ∀ v w' Fr, ER Γ w' σ envF → TR Γ w' v r Fr → Step w w' → Fresh w Fr → Q v w'.H) : tLc (wI X tg iter) (bG X scope tg) tt (bE X scope elt) vs σ w.H Q :=
  lc_runX hK (fun ds env1 g R k => hi hK σ env ds env1 w R g E fun J w1 E1 p1 ok => k J w1 E1 p1 ok.w) hg hc hf he E k
end
end G

/-! G10: comprehensions as expressions, lists that are changed -/
namespace G
open PySem L2
section
variable {Γ : Gam} {X : Cx} {A : List Nat}
theorem sd_lc {tg iter elt : Expr} {scope : Scope} {own : List (Str × Nat)} {ifs : List Expr} {tt : TT} {tc : Et Γ} {fi : Ei Γ} {t : Eg Γ} {f : Ev Γ} {pos : Pos} (ok : BlkOk X.N X.env.scope scope own)
    (hi : SdI Γ X tg iter fi) (hg : AllB X scope fun Y => SdG Γ Y (own.map (·.2)) tg t) (hc : SdC Γ X scope ifs tt tc) (hf : AllB X scope fun Y => SdE Γ Y elt f) (hs : ∀ x, foldedSetIterable iter X.env x = pure x := by intro _; rfl) :
    SdE Γ X (.ListComp elt [⟨tg, iter, ifs, 0⟩] scope pos) (mLc fi (own.map (·.2)) t tc f) :=
  fun hK σ env r env' w Q he E k => wE.of (pe_lc (te := bE X scope elt) (g := bG X scope tg) hK.calm hK.nd pi_wI ok (fun s H C cl fp => ⟨fun pins s' σ H' v u Q I r h => h s H C cl fp u pins s' r I⟩) hc.pts (fun s H C cl fp => ⟨fun pins s' σ H' Q I h => h s H C cl fp pins s' I⟩) hs) (lc_run hK hi hg hc hf he E k)
theorem sds_setLc (i : Nat) {y : Str} {py : Pos} {tg iter elt : Expr} {scope : Scope} {own : List (Str × Nat)} {ifs : List Expr} {tt : TT} {tc : Et Γ} {fi : Ei Γ} {t : Eg Γ} {f : Ev Γ} {pos spos : Pos} (hA : i ∈ A) (hy : X.N[i]? = some y) (hyl : X.env.scope.names.lookup y = some .local)
    (hsw : swapsWith (.ListComp elt [⟨tg, iter, ifs, 0⟩] scope pos) (some (.Name y py)) spos.line X.env = pure true) (ok : BlkOk X.N X.env.scope scope own)
    (hi : SdI Γ X tg iter fi) (hg : AllB X scope fun Y => SdG Γ Y (own.map (·.2)) tg t) (hc : SdC Γ X scope ifs tt tc) (hf : AllB X scope fun Y => SdE Γ Y elt f) (hs : ∀ x, foldedSetIterable iter X.env x = pure x := by intro _; rfl) :
    SdS Γ X A (.Assign [.Name y py] (.ListComp elt [⟨tg, iter, ifs, 0⟩] scope pos) spos) (mSet i (mLc fi (own.map (·.2)) t tc f)) := by
  intro hK σ env fl env' w D he E k
  refine wS.of (ps_setLc (te := bE X scope elt) (g := bG X scope tg) hK.calm hK.nd hy hyl hsw pi_wI ok (fun s H C cl fp => ⟨fun pins s' σ H' v u Q I r h => h s H C cl fp u pins s' r I⟩) hc.pts (fun s H C cl fp => ⟨fun pins s' σ H' Q I h => h s H C cl fp pins s' I⟩) hs) ?_
  unfold mSet at he
  cases g1 : mLc fi (own.map (·.2)) t tc f env with
  | none => simp only [g1] at he; cases he
  | some q =>
    obtain ⟨s, env1⟩ := q
    simp only [g1] at he
    split at he
    · rename_i hl
      cases he
      refine lc_run hK hi hg hc hf g1 E fun v w1 Fr E1 T1 p1 f1 => ?_
      exact k _ ⟨w1.M, fun j a => if j = i then Fr a else w1.F j a, w1.H⟩ (E1.set T1 hl) (p1.set f1) (Agree.set hA)
    · cases he

/-! ### lists that are changed -/
theorem ER.put {w : Wd} {σ : St} {env : Env Γ} {i : Nat} {ds ds' : List D} {p : Addr} {vs' : List V} (E : ER Γ w σ env) (h : env[i]? = some (.lst ds)) (hv : σ[i]? = some (some (.ref p))) (fp : ∀ a, w.F i a ↔ a = p) (r : Dats Γ w.M w.H vs' ds') :
    ER Γ ⟨w.M, w.F, upd w.H p (.lst vs')⟩ σ (env.set i (.lst ds')) ∧ Step w ⟨w.M, w.F, upd w.H p (.lst vs')⟩ := by
  have il : i < env.length := (List.getElem?_eq_some_iff.mp h).1
  have mp : w.M p := E.sub i p ((fp p).mpr rfl)
  have g : Go w.M w.H w.M (upd w.H p (.lst vs')) := ⟨fun a u n e => by rw [upd_ne (fun (z : a = p) => n (z ▸ mp))]; exact e, fun _ n _ => n⟩
  refine ⟨⟨by rw [List.length_set]; exact E.len, fun j s hj => ?_, E.sub, E.dis, fun a m => ?_, fun j hj => E.out j (by rw [List.length_set] at hj; exact hj)⟩,
    ⟨fun a u n e => by show upd w.H p (.lst vs') a = some u; rw [upd_ne (fun (z : a = p) => n i ((fp a).mpr z))]; exact e, fun _ _ m => m, fun _ m => .inl m, fun j _ f => .inl ⟨j, f⟩, fun a e => ?_⟩⟩
  · by_cases e : j = i
    · subst e
      rw [List.getElem?_set_self il] at hj
      cases hj
      exact .inr ⟨_, hv, p, vs', rfl, upd_same, r.go g, fp⟩
    · rw [List.getElem?_set_ne (Ne.symm e)] at hj
      rcases E.slot j s hj with z | ⟨v, ev, rv⟩
      · exact .inl z
      · refine .inr ⟨v, ev, rv.go g fun a u fa q => ?_⟩
        show upd w.H p (.lst vs') a = some u
        rw [upd_ne (fun (z : a = p) => e (E.dis j i a fa ((fp a).mpr z)))]
        exact q
  · show upd w.H p (.lst vs') a ≠ none
    by_cases e : a = p
    · rw [e, upd_same]; simp
    · rw [upd_ne e]; exact E.dom a m
  · show upd w.H p (.lst vs') a ≠ none
    by_cases e' : a = p
    · rw [e', upd_same]; simp
    · rw [upd_ne e']; exact e
/-- a method of a list by data: the list before, the arguments; the answer, the list behind -/
def MutOk (Γ : Gam) (r : V → List V → Hp → VK → Prop) (u : List D → List (Sl Γ) → Option (D × List D)) : Prop :=
  ∀ (M : Addr → Prop) (H : Hp) (p : Addr) (vs : List V) (ds : List D) (xs : List V) (ss : List (Sl Γ)) (res : D) (ds' : List D) (Q : VK), M p → H p = some (.lst vs) → Dats Γ M H vs ds → SRs Γ M H xs ss → u ds ss = some (res, ds') →
    (∀ y vs', Dats Γ M H vs' ds' → (∀ M' H', Go M H M' H' → Dat Γ M' H' y res) → Q y (upd H p (.lst vs'))) → r (.ref p) xs H Q
def mMut {Γ : Gam} (i : Nat) (u : List D → List (Sl Γ) → Option (D × List D)) (as : List (AE Γ)) : Ev Γ := fun env =>
  match env[i]? with
  | some (.lst _) => match evAs as env with
    | none => none
    | some (xs, env1) => match peeks xs env1, env1[i]? with
      | some ss, some (.lst ds) => (u ds ss).map fun q => (.dat q.1, env1.set i (.lst q.2))
      | _, _ => none
  | _ => none
theorem mut_run {r : V → List V → Hp → VK → Prop} {u : List D → List (Sl Γ) → Option (D × List D)} {i : Nat} {es : List Expr} {as : List (AE Γ)} {σ : St} {env env' : Env Γ} {s : Sl Γ} {w : Wd} {Q : VK} (hK : Gd Γ X) (hu : MutOk Γ r u) (ha : SdL Γ X es as) (he : mMut i u as env = some (s, env')) (E : ER Γ w σ env)
    (k : ∀ v w' Fr, ER Γ w' σ env' → TR Γ w' v s Fr → Step w w' → Fresh w Fr → Q v w'.H) : ∃ v, σ[i]? = some (some v) ∧ tyV X.K "list" v w.H ∧ wL X es σ w.H fun xs H2 => r v xs H2 Q := by
  unfold mMut at he
  split at he
  · rename_i ds0 g0
    obtain ⟨v, ev, p0, vs0, rfl, hp0, r0, n0⟩ := E.at (i := i) (s := .lst ds0) (by rw [g0]; rfl)
    refine ⟨_, ev, .inl ⟨rfl, vs0, SqL.of hp0⟩, ?_⟩
    cases g1 : evAs as env with
    | none => simp only [g1] at he; cases he
    | some q =>
      obtain ⟨xs, env1⟩ := q
      simp only [g1] at he
      split at he
      · rename_i ss ds g2 g3
        cases g4 : u ds ss with
        | none => rw [g4] at he; cases he
        | some q =>
          obtain ⟨res, ds'⟩ := q
          rw [g4] at he
          cases he
          refine sdl_run hK ha g1 E fun vs w1 Frs E1 A1 p1 f1 => ?_
          obtain ⟨v1, ev1, p, us, rfl, hp, rp, n⟩ := E1.at (i := i) (s := .lst ds) (by rw [g3]; rfl)
          have ep : p = p0 := by rw [ev] at ev1; cases ev1; rfl
          subst ep
          refine hu w1.M w1.H p us ds vs ss res ds' Q (E1.sub i p ((n p).mpr rfl)) hp rp (A1.peeks E1 g2) g4 fun y vs' r' hy => ?_
          obtain ⟨E2, p2⟩ := E1.put (ds' := ds') (vs' := vs') g3 ev n r'
          exact k y ⟨w1.M, w1.F, upd w1.H p (.lst vs')⟩ (fun _ => False) E2 (TR.dat (hy _ _ (E1.go p2))) (p1.trans p2 E.dom) fun _ z => z.elim
      · cases he
  · cases he
variable {e : Expr} {es : List Expr} {as : List (AE Γ)} {x name : Str} {npos apos cpos : Pos} {id : String}
/-- x.name(e, ..), x a local that owns a list -/
theorem sd_mut {r : V → List V → Hp → VK → Prop} {u : List D → List (Sl Γ) → Option (D × List D)} (i : Nat) (slot : Slot "list" name id) (hty : typeOf (.builtin id) = pure (.type "method_descriptor")) (rule : MtR X id r) (hu : MutOk Γ r u) (hN : X.N[i]? = some x) (hv : Vis X.env.scope x) (ha : SdL Γ X (e :: es) as)
    (hd : (x == ("__debug__" : Str)) = false := by decide) (hcd : (x == ("__classdict__" : Str)) = false := by decide)
    (hbase : attributeBase (.Name x npos) name X.env (eval (.Name x npos) X.env) = eval (.Name x npos) X.env := by rfl)
    (hfew : ((backTo cpos (starEach (e :: es) X.env)).all (fun x => !x.1) && (backToKw cpos (keywordEach [] X.env)).all (fun x => x.1.isSome) && decide ((e :: es).length + ([] : List Keyword).length + (if ([] : List Keyword).isEmpty then 0 else 1) < 30)) = true := by rfl)
    (hline : (apos.endLine == cpos.line) = true := by rfl) (hplain : (backTo cpos (starEach es X.env)).any (·.1) = false := by rfl) :
    SdE Γ X (.Call (.Attribute (.Name x npos) name apos) (e :: es) [] cpos) (mMut i u as) :=
  fun hK σ env s env' w Q he E k => wE.of (pe_bm PySem.F.plainAttrs_list slot hty rule (pe_var hN hv hd hcd) (pa_wL ha.ns) hbase hfew hline (ha.ns e List.mem_cons_self es) hplain) (mut_run hK hu ha he E k)
theorem sd_mut0 {r : V → List V → Hp → VK → Prop} {u : List D → List (Sl Γ) → Option (D × List D)} (i : Nat) (slot : Slot "list" name id) (hty : typeOf (.builtin id) = pure (.type "method_descriptor")) (rule : MtR X id r) (hu : MutOk Γ r u) (hN : X.N[i]? = some x) (hv : Vis X.env.scope x)
    (hd : (x == ("__debug__" : Str)) = false := by decide) (hcd : (x == ("__classdict__" : Str)) = false := by decide)
    (hbase : attributeBase (.Name x npos) name X.env (eval (.Name x npos) X.env) = eval (.Name x npos) X.env := by rfl) (hline : (apos.endLine == cpos.line) = true := by rfl) :
    SdE Γ X (.Call (.Attribute (.Name x npos) name apos) [] [] cpos) (mMut i u []) :=
  fun hK σ env s env' w Q he E k => wE.of (pe_bm0 PySem.F.plainAttrs_list slot hty rule (pe_var hN hv hd hcd) hbase hline) (mut_run hK hu .nil he E k)
def uAppend {Γ : Gam} (ds : List D) : List (Sl Γ) → Option (D × List D)
  | [.dat d] => if ds.length < sizeLine then some (.non, ds ++ [d]) else none
  | _ => none
theorem uAppend_ok : MutOk Γ rAppend uAppend := by
  intro M H p vs ds xs ss res ds' Q mp hp r hs hu k
  unfold uAppend at hu
  split at hu
  · rename_i d
    split at hu
    · rename_i hl
      cases hu
      cases hs with
      | cons h1 r1 =>
        cases r1
        exact ⟨p, vs, _, rfl, rfl, hp, by rw [r.length]; exact hl, k _ _ (r.append (.cons h1.1 .nil)) fun _ _ _ => .non⟩
    · cases hu
  · cases hu
def uPop {Γ : Gam} (ds : List D) : List (Sl Γ) → Option (D × List D)
  | [] => (ds[ds.length - 1]?).map fun d => (d, ds.dropLast)
  | [s] => match asInt s with
    | some i => if 0 ≤ i ∧ i < 2 ^ 62 then (ds[i.toNat]?).map fun d => (d, ds.eraseIdx i.toNat) else none
    | none => none
  | _ => none
theorem dropLast_dats {M : Addr → Prop} {H : Hp} {vs : List V} {ds : List D} (r : Dats Γ M H vs ds) : Dats Γ M H vs.dropLast ds.dropLast := by
  rw [List.dropLast_eq_take, List.dropLast_eq_take, r.length]
  exact r.take _
theorem seqIndex_nat {i : Int} {n : Nat} (h0 : 0 ≤ i) (h1 : i.toNat < n) : seqIndex? i n = some i.toNat := by
  have q : ixN n i = some i.toNat := by
    unfold ixN
    rw [if_pos h0, if_pos (by omega)]
  exact (ixN_seq q).1
theorem uPop_ok : MutOk Γ (fun x xs H Q => rPop x xs H Q ∨ rPopAt x xs H Q) uPop := by
  intro M H p vs ds xs ss res ds' Q mp hp r hs hu k
  unfold uPop at hu
  split at hu
  · cases hs
    cases g : ds[ds.length - 1]? with
    | none => rw [g] at hu; cases hu
    | some d =>
      rw [g] at hu
      cases hu
      obtain ⟨v, ev, hv⟩ := r.get g
      exact .inl ⟨p, vs, v, rfl, rfl, hp, by rw [r.length]; exact ev, k _ _ (dropLast_dats r) fun _ _ g => hv.go g⟩
  · rename_i s
    split at hu
    · rename_i i gi
      split at hu
      · rename_i hi
        cases g : ds[i.toNat]? with
        | none => rw [g] at hu; cases hu
        | some d =>
          rw [g] at hu
          cases hu
          cases hs with
          | cons h1 r1 =>
            cases r1
            cases h1.int (asInt_some gi)
            obtain ⟨v, ev, hv⟩ := r.get g
            have hl := (List.getElem?_eq_some_iff.mp ev).1
            exact .inr ⟨p, vs, i, i.toNat, v, rfl, rfl, hp, by omega, by omega, seqIndex_nat hi.1 hl, ev, k _ _ (r.eraseIdx _) fun _ _ g => hv.go g⟩
      · cases hu
    · cases hu
  · cases hu
theorem mt_popAll : MtR X "list.pop" (fun x xs H Q => rPop x xs H Q ∨ rPopAt x xs H Q) := MtR.or mt_pop mt_popAt
def uReverse {Γ : Gam} (ds : List D) : List (Sl Γ) → Option (D × List D)
  | [] => some (.non, ds.reverse)
  | _ => none
theorem uReverse_ok : MutOk Γ rReverse uReverse := by
  intro M H p vs ds xs ss res ds' Q mp hp r hs hu k
  unfold uReverse at hu
  split at hu
  · cases hu; cases hs; exact ⟨p, vs, rfl, rfl, hp, k _ _ r.reverse fun _ _ _ => .non⟩
  · cases hu
def uClear {Γ : Gam} (ds : List D) : List (Sl Γ) → Option (D × List D)
  | [] => some (.non, [])
  | _ => none
theorem uClear_ok : MutOk Γ rClear uClear := by
  intro M H p vs ds xs ss res ds' Q mp hp r hs hu k
  unfold uClear at hu
  split at hu
  · cases hu; cases hs; exact ⟨p, vs, rfl, rfl, hp, k _ _ .nil fun _ _ _ => .non⟩
  · cases hu
def uExtend {Γ : Gam} (ds : List D) : List (Sl Γ) → Option (D × List D)
  | [.dat (.lst es)] => if ds.length + es.length ≤ sizeLine then some (.non, ds ++ es) else none
  | _ => none
theorem uExtend_ok : MutOk Γ rExtend uExtend := by
  intro M H p vs ds xs ss res ds' Q mp hp r hs hu k
  unfold uExtend at hu
  split at hu
  · rename_i es
    split at hu
    · rename_i hl
      cases hu
      cases hs with
      | cons h1 r1 =>
        cases r1
        obtain ⟨q, ws, rfl, hq, r'⟩ := h1.lstW (ds := es) rfl (fun _ z => by cases z)
        exact ⟨p, q, vs, ws, rfl, rfl, hp, hq, by rw [r.length, r'.length]; exact hl, k _ _ (r.append r') fun _ _ _ => .non⟩
    · cases hu
  · cases hu
/-- x[k] = e, x a local that owns a list -/
def mSetIx {Γ : Gam} (i : Nat) (fe fk : Ev Γ) : Es Γ := fun env =>
  match fe env with
  | some (.dat d, env1) => match env1[i]? with
    | some (.lst _) => match fk env1 with
      | some (.dat (.int k), env2) => match env2[i]? with
        | some (.lst ds) => (ixN ds.length k).map fun j => (.nx, env2.set i (.lst (ds.set j d)))
        | _ => none
      | _ => none
    | _ => none
  | _ => none
theorem sds_setIx (i : Nat) {ke : Expr} {fe fk : Ev Γ} {tpos pos : Pos} (hN : X.N[i]? = some x) (hv : Vis X.env.scope x) (he' : SdE Γ X e fe) (hk : SdE Γ X ke fk) (hd : (x == ("__debug__" : Str)) = false := by decide) (hcd : (x == ("__classdict__" : Str)) = false := by decide)
    (ha : ∀ v, assign (.Subscript (.Name x npos) ke tpos) X.env v = (do
      let ov ← holding [v] (eval (.Name x npos) X.env)
      let iv ← holding [v, ov] (eval ke X.env)
      standAt tpos
      holding [v, ov, iv] (setItem ov iv v)
      release [v, ov, iv] []) := by intro _; rfl) (hs : swapsWithSole [.Subscript (.Name x npos) ke tpos] e pos.line X.env = pure false := by rfl) (hw : swappedStores [.Subscript (.Name x npos) ke tpos] e X.env = pure none := by rfl)
    (h1 : (assignEach [.Subscript (.Name x npos) ke tpos] X.env).map (·.2) = [assign (.Subscript (.Name x npos) ke tpos) X.env] := by rfl) : SdS Γ X A (.Assign [.Subscript (.Name x npos) ke tpos] e pos) (mSetIx i fe fk) := by
  intro hK σ env fl env' w D he E k
  refine wS.of (ps_asg pe_wE (pg_sub (pe_var hN hv hd hcd) pe_wE set_list ha) hs hw h1) ?_
  unfold mSetIx at he
  split at he
  · rename_i d env1 g1
    split at he
    · rename_i ds0 g2
      split at he
      · rename_i kk env2 g3
        split at he
        · rename_i ds g4
          cases g5 : ixN ds.length kk with
          | none => rw [g5] at he; cases he
          | some j =>
            rw [g5] at he
            cases he
            refine he' hK σ env _ _ w _ g1 E fun v w1 Fr E1 T1 p1 f1 => ?_
            obtain ⟨v0, ev0, _⟩ := E1.at (i := i) (s := .lst ds0) (by rw [g2]; rfl)
            refine ⟨v0, ev0, ?_⟩
            refine hk hK σ env1 _ _ w1 _ g3 E1 fun u w2 Fr2 E2 T2 p2 f2 => ?_
            obtain ⟨v2, ev2, p, us, rfl, hp, rp, n⟩ := E2.at (i := i) (s := .lst ds) (by rw [g4]; rfl)
            rw [ev0] at ev2
            cases ev2
            cases T2.rep.int rfl
            have hv1 : Dat Γ w2.M w2.H v d := T1.rep.1.go (E1.go p2)
            refine ⟨p, us, kk, j, rfl, rfl, hp, by rw [rp.length]; exact g5, ?_⟩
            obtain ⟨E3, p3⟩ := E2.put (ds' := ds.set j d) (vs' := us.set j v) g4 ev0 n (rp.set hv1 j)
            exact k σ ⟨w2.M, w2.F, upd w2.H p (.lst (us.set j v))⟩ E3 ((p1.trans p2 E.dom).trans p3 E.dom) Agree.refl
        · cases he
      · cases he
    · cases he
  · cases he
/-- return x, x a local: what x owns goes out -/
def mRetMv {Γ : Gam} (i : Nat) : Es Γ := fun env =>
  match env[i]? with
  | some .none => none
  | some s => some (.rt s, env.set i .none)
  | none => none
theorem sds_retMv (i : Nat) {pos : Pos} (hN : X.N[i]? = some x := by rfl) (hv : Vis X.env.scope x := by first | exact Or.inl rfl | exact Or.inr (Or.inl rfl) | exact Or.inr (Or.inr rfl)) (hd : (x == ("__debug__" : Str)) = false := by decide) (hcd : (x == ("__classdict__" : Str)) = false := by decide) : SdS Γ X A (.Return (some (.Name x npos)) pos) (mRetMv i) := by
  intro hK σ env fl env' w D he E k
  refine wS.of (ps_ret (pe_var hN hv hd hcd)) ?_
  unfold mRetMv at he
  split at he
  · cases he
  · rename_i s hs g
    cases he
    obtain ⟨v, ev, rv⟩ := E.at (i := i) (s := s) (by
      rw [g]
      cases s with
      | none => exact absurd rfl hs
      | _ => rfl)
    have il : i < env.length := (List.getElem?_eq_some_iff.mp g).1
    refine ⟨v, ev, ?_⟩
    refine k v σ ⟨w.M, fun j a => w.F j a ∧ j ≠ i, w.H⟩ (w.F i) ⟨by rw [List.length_set]; exact E.len, fun j t hj => ?_, fun j a f => E.sub j a f.1, fun j l a f f' => E.dis j l a f.1 f'.1, E.dom, fun j hj a f => E.out j (by rw [List.length_set] at hj; exact hj) a f.1⟩
      ⟨rv, fun a f => E.sub i a f, fun a j f z => z.2 (E.dis j i a z.1 f)⟩ ⟨fun _ _ _ q => q, fun _ _ m => m, fun _ m => .inl m, fun j _ f => .inl ⟨j, f.1⟩, fun _ q => q⟩ (fun a f => .inl ⟨i, f⟩) Agree.refl
    by_cases e : j = i
    · subst e
      rw [List.getElem?_set_self il] at hj
      cases hj
      exact .inl ⟨rfl, fun a z => z.2 rfl⟩
    · rw [List.getElem?_set_ne (Ne.symm e)] at hj
      have ef : (fun a => w.F j a ∧ j ≠ i) = w.F j := by funext a; exact propext ⟨fun z => z.1, fun z => ⟨z, e⟩⟩
      rcases E.slot j t hj with ⟨z1, z2⟩ | ⟨u, eu, ru⟩
      · exact .inl ⟨z1, fun a f => z2 a f.1⟩
      · exact .inr ⟨u, eu, ru.to (Go.refl _ _) ef⟩
  · cases he
end
end G

/-! G11: defs and their calls -/
namespace G
open PySem L2

abbrev Fn (Γ : Gam) := List (Sl Γ) → Option (Sl Γ × List (Sl Γ))
/-- a def's promise by data: the arguments before, the answer, the arguments behind -/
def spG (Γ : Gam) (np : Nat) (g : Fn Γ) : Sp := fun vs H Q _ => ∃ (args : List (Sl Γ)) (r : Sl Γ) (args' : List (Sl Γ)) (w : Wd), g args = some (r, args') ∧ args.length = np ∧ w.H = H ∧ ER Γ w (vs.map some) args ∧
  ∀ v w' Fr, ER Γ w' (vs.map some) args' → TR Γ w' v r Fr → Step w w' → Fresh w Fr → Q v w'.H
def mFun {Γ : Gam} (np loc : Nat) (A : List Nat) (body : Es Γ) : Fn Γ := fun args =>
  if args.length = np ∧ ((A.filter (· < np)).all fun i => match args[i]? with | some s => nonOwn s | none => true) = true then
    match body (args ++ List.replicate loc .none) with
    | some (.rt s, env') => some (s, backE args (env'.take np) (A.filter (· < np)))
    | some (.nx, env') => some (.dat .non, backE args (env'.take np) (A.filter (· < np)))
    | _ => none
  else none
section
variable {Γ : Gam}
theorem ER.extend {w : Wd} {vs : List V} {args : List (Sl Γ)} (E : ER Γ w (vs.map some) args) (n : Nat) : ER Γ w (vs.map some ++ List.replicate n none) (args ++ List.replicate n .none) := by
  have hl : args.length = vs.length := by have := E.len; rw [List.length_map] at this; exact this
  refine ⟨by simp [hl], fun i s h => ?_, E.sub, E.dis, E.dom, fun i hi => E.out i (by rw [List.length_append] at hi; omega)⟩
  by_cases hi : i < args.length
  · rw [List.getElem?_append_left hi] at h
    rcases E.slot i s h with z | ⟨v, ev, r⟩
    · exact .inl z
    · exact .inr ⟨v, by rw [List.getElem?_append_left (by rw [List.length_map]; omega)]; exact ev, r⟩
  · rw [List.getElem?_append_right (by omega)] at h
    have hs : s = .none := by
      have := List.getElem?_replicate (n := n) (a := (Sl.none : Sl Γ)) (i := i - args.length)
      rw [this] at h
      split at h
      · cases h; rfl
      · cases h
    exact .inl ⟨hs, E.out i (by omega)⟩
theorem ER.cut {w w' : Wd} {vs : List V} {args env' : List (Sl Γ)} {σ' : St} {A : List Nat} {n : Nat} (E : ER Γ w (vs.map some) args) (E' : ER Γ w' σ' env') (p : Step w w') (a : Agree A (vs.map some ++ List.replicate n none) σ')
    (hA : ((A.filter (· < args.length)).all fun i => match args[i]? with | some s => nonOwn s | none => true) = true) :
    ER Γ ⟨w'.M, fun i x => i < args.length ∧ i ∉ A ∧ w'.F i x, w'.H⟩ (vs.map some) (backE args (env'.take args.length) (A.filter (· < args.length))) := by
  have hl : args.length = vs.length := by have := E.len; rw [List.length_map] at this; exact this
  have hl' : args.length ≤ env'.length := by
    have h1 := E'.len
    have h2 := a.len
    rw [List.length_append, List.length_map] at h2
    omega
  have lb : (backE args (env'.take args.length) (A.filter (· < args.length))).length = args.length := by
    rw [backE_len, List.length_take]; omega
  refine ⟨by rw [lb, List.length_map]; exact hl, fun i s h => ?_, fun i x f => E'.sub i x f.2.2, fun i j x f f' => E'.dis i j x f.2.2 f'.2.2, E'.dom, fun i hi x f => ?_⟩
  · have hi : i < args.length := by rw [← lb]; exact (List.getElem?_eq_some_iff.mp h).1
    rw [backE_get] at h
    by_cases hiA : i ∈ A
    · rw [if_pos (List.mem_filter.mpr ⟨hiA, by simpa using hi⟩)] at h
      rw [List.getElem?_take_of_lt hi] at h
      have hs : s = args[i] := by
        rw [List.getElem?_eq_getElem hi] at h
        cases q : env'[i]? with
        | none => rw [q] at h; cases h
        | some t => rw [q] at h; exact (Option.some.inj h).symm
      have no : nonOwn args[i] = true := by
        have := List.all_eq_true.mp hA i (List.mem_filter.mpr ⟨hiA, by simpa using hi⟩)
        rw [List.getElem?_eq_getElem hi] at this
        exact this
      subst hs
      have nF : ∀ x, ¬ (i < args.length ∧ i ∉ A ∧ w'.F i x) := fun x f => f.2.1 hiA
      rcases E.slot i _ (List.getElem?_eq_getElem hi) with ⟨z1, z2⟩ | ⟨v, ev, r⟩
      · exact .inl ⟨z1, nF⟩
      · refine .inr ⟨v, ev, ?_⟩
        have g := E.go p
        generalize args[i] = s at no r
        cases s with
        | none => exact r
        | dat d => exact ⟨r.1.go g, nF⟩
        | scr ns => obtain ⟨⟨b, e, h⟩, _⟩ := r; exact ⟨⟨b, e, h.go g⟩, nF⟩
        | _ => cases no
    · rw [if_neg (fun z => hiA (List.mem_filter.mp z).1), List.getElem?_take_of_lt hi] at h
      have ef : (fun x => i < args.length ∧ i ∉ A ∧ w'.F i x) = w'.F i := by funext x; exact propext ⟨fun z => z.2.2, fun z => ⟨hi, hiA, z⟩⟩
      rcases E'.slot i s h with ⟨z1, z2⟩ | ⟨v, ev, r⟩
      · exact .inl ⟨z1, fun x f => z2 x f.2.2⟩
      · rw [a.get i hiA, List.getElem?_append_left (by rw [List.length_map]; omega)] at ev
        exact .inr ⟨v, ev, r.to (Go.refl _ _) ef⟩
  · rw [lb] at hi
    exact absurd f.1 (by omega)
theorem Step.cut {w w' : Wd} {P : Nat → Prop} (p : Step w w') : Step w ⟨w'.M, fun i x => P i ∧ w'.F i x, w'.H⟩ := ⟨p.keep, p.mu, p.src, fun i a f => p.own i a f.2, p.live⟩
/-- a def of the text keeps its promise by data, by its body's derivation -/
theorem fn_ok {P : Program} {w : World} {mg : Str → Option Value} {base : Heap} {x qual : Str} {st : Stmt} {f : Addr} {fd : FuncData} {N ps : List Str} {k : Nat} {A : List Nat} {body : Es Γ} (F : Fun Γ.K x qual st f fd) (S : FnScope N ps (defScope st))
    (hb : ∀ (cdv : Value) (Ar : Around) (outer : List PySem.Env) (s : Shared) (H : Hp) (E : XK), Room k (Ar.deeper (PyProof.Rows.envOfC qual (defScope st) s.heap.objs.size f cdv)) → SdSs Γ (cxOf CX0 P w Γ.K mg base N qual (defScope st) f cdv Ar outer s H E).nox A (defBody st) body) :
    FnOk P w Γ.K mg base CX0 (k + 1) f fd ps (spG Γ ps.length (mFun ps.length (N.length - ps.length) A body)) := by
  refine F.ok S (fun vs H Q E h => ?_) (fun cdv Ar outer s H vs Q E hr h => ?_)
  · obtain ⟨args, r, args', w, _, hl, _, Er, _⟩ := h
    have := Er.len
    rw [List.length_map] at this
    omega
  · obtain ⟨args, r, args', w1, hg, hl, rfl, Er, k1⟩ := h
    have hlv : vs.length = ps.length := by have := Er.len; rw [List.length_map] at this; omega
    unfold mFun at hg
    split at hg
    · rename_i hc
      refine ⟨_, pss_wSs, ?_⟩
      have es : L2.start N vs = vs.map some ++ List.replicate (N.length - ps.length) none := by unfold L2.start; rw [hlv]
      have Gx : Gd Γ (cxOf CX0 P w Γ.K mg base N qual (defScope st) f cdv Ar outer s w1.H E).nox := ⟨rfl, rfl, by have := hr.un; show (Ar.deeper (PyProof.Rows.envOfC qual (defScope st) s.heap.objs.size f cdv)).units + 65 < cLine; omega, S.nd⟩
      have E0 := Er.extend (N.length - ps.length)
      rw [es]
      split at hg
      · rename_i s1 env' g1
        cases hg
        refine hb cdv Ar outer s w1.H E hr Gx _ _ _ _ w1 _ g1 E0 fun v σ' w' Fr E' T' p' f' a' => ?_
        have hc2 := hc.2
        rw [← hl] at hc2
        have E2 := Er.cut E' p' a' hc2
        exact k1 v ⟨w'.M, fun i x => i < args.length ∧ i ∉ A ∧ w'.F i x, w'.H⟩ Fr (by rw [← hl]; exact E2) ⟨T'.rep, T'.sub, fun a i z q => T'.off a i z q.2.2⟩ ⟨p'.keep, p'.mu, p'.src, fun i a q => p'.own i a q.2.2, p'.live⟩ f'
      · rename_i env' g1
        cases hg
        refine hb cdv Ar outer s w1.H E hr Gx _ _ _ _ w1 _ g1 E0 fun σ' w' E' p' a' => ?_
        have hc2 := hc.2
        rw [← hl] at hc2
        have E2 := Er.cut E' p' a' hc2
        exact k1 .non ⟨w'.M, fun i x => i < args.length ∧ i ∉ A ∧ w'.F i x, w'.H⟩ (fun _ => False) (by rw [← hl]; exact E2) (TR.dat .non) ⟨p'.keep, p'.mu, p'.src, fun i a q => p'.own i a q.2.2, p'.live⟩ fun _ z => z.elim
      · cases hg
    · cases hg
end
end G

/-! G12: calls -/
namespace G
open PySem L2

def takeA {Γ : Gam} : List (Ag Γ) → Env Γ → Option (List (Sl Γ) × Env Γ × List (Option Nat))
  | [], env => some ([], env, [])
  | .val s :: xs, env => (takeA xs env).map fun q => (s :: q.1, q.2.1, none :: q.2.2)
  | .brw i :: xs, env => match got env[i]? with
    | none => none
    | some s => if nonOwn s = true then (takeA xs env).map fun q => (s :: q.1, q.2.1, none :: q.2.2)
      else (takeA xs (env.set i .none)).map fun q => (s :: q.1, q.2.1, some i :: q.2.2)
def putA {Γ : Gam} : List (Option Nat) → List (Sl Γ) → Env Γ → Env Γ
  | some i :: bs, s :: ss, env => (putA bs ss env).set i s
  | none :: bs, _ :: ss, env => putA bs ss env
  | _, _, env => env
def mCall {Γ : Gam} (np : Nat) (g : Fn Γ) (as : List (AE Γ)) : Ev Γ := fun env =>
  match evAs as env with
  | none => none
  | some (xs, env1) => match takeA xs env1 with
    | none => none
    | some (args, env2, bs) => if args.length = np then
        match g args with
        | none => none
        | some (r, args') => some (r, putA bs args' env2)
      else none
section
variable {Γ : Gam} {X : Cx} {σ : St}
theorem ER.moved {w : Wd} {env : Env Γ} (E : ER Γ w σ env) (i : Nat) : ER Γ ⟨w.M, fun j a => w.F j a ∧ j ≠ i, w.H⟩ σ (env.set i .none) := by
  refine ⟨by rw [List.length_set]; exact E.len, fun j t hj => ?_, fun j a f => E.sub j a f.1, fun j l a f f' => E.dis j l a f.1 f'.1, E.dom, fun j hj a f => E.out j (by rw [List.length_set] at hj; exact hj) a f.1⟩
  by_cases e : j = i
  · subst e
    by_cases il : j < env.length
    · rw [List.getElem?_set_self il] at hj
      cases hj
      exact .inl ⟨rfl, fun a z => z.2 rfl⟩
    · rw [List.getElem?_eq_none_iff.mpr (by rw [List.length_set]; omega)] at hj
      cases hj
  · rw [List.getElem?_set_ne (Ne.symm e)] at hj
    have ef : (fun a => w.F j a ∧ j ≠ i) = w.F j := by funext a; exact propext ⟨fun z => z.1, fun z => ⟨z, e⟩⟩
    rcases E.slot j t hj with ⟨z1, z2⟩ | ⟨u, eu, ru⟩
    · exact .inl ⟨z1, fun a f => z2 a f.1⟩
    · exact .inr ⟨u, eu, ru.to (Go.refl _ _) ef⟩
theorem SR.none_own {M : Addr → Prop} {H : Hp} {v : V} {s : Sl Γ} {Fr : Addr → Prop} (h : SR Γ M H v s Fr) (n : nonOwn s = true) : ∀ a, ¬ Fr a := by
  cases s with
  | none => exact h.elim
  | dat d => exact h.2
  | scr ns => exact h.2
  | _ => cases n
/-- one more argument in front -/
theorem ER.consArg {w : Wd} {F : Nat → Addr → Prop} {vs : List V} {args : List (Sl Γ)} {v : V} {s : Sl Γ} {Fr : Addr → Prop} (E : ER Γ ⟨w.M, F, w.H⟩ (vs.map some) args) (r : SR Γ w.M w.H v s Fr) (sub : ∀ a, Fr a → w.M a) (dis : ∀ a j, Fr a → ¬ F j a) :
    ER Γ ⟨w.M, fun j a => match j with | 0 => Fr a | j + 1 => F j a, w.H⟩ ((v :: vs).map some) (s :: args) := by
  refine ⟨by have := E.len; simp at this ⊢; exact this, fun j t hj => ?_, fun j a f => ?_, fun j l a f f' => ?_, E.dom, fun j hj a f => ?_⟩
  · cases j with
    | zero => cases hj; exact .inr ⟨v, rfl, r⟩
    | succ j =>
      rcases E.slot j t (by simpa using hj) with z | ⟨u, eu, ru⟩
      · exact .inl z
      · exact .inr ⟨u, by simpa using eu, ru⟩
  · cases j with
    | zero => exact sub a f
    | succ j => exact E.sub j a f
  · cases j with
    | zero =>
      cases l with
      | zero => rfl
      | succ l => exact absurd f' (dis a l f)
    | succ j =>
      cases l with
      | zero => exact absurd f (dis a j f')
      | succ l => rw [E.dis j l a f f']
  · cases j with
    | zero => simp at hj
    | succ j => exact E.out j (by simpa using hj) a f
theorem ER.same {w : Wd} {F F' : Nat → Addr → Prop} {env : Env Γ} (E : ER Γ ⟨w.M, F, w.H⟩ σ env) (e : ∀ j, F' j = F j) : ER Γ ⟨w.M, F', w.H⟩ σ env := by
  have : F' = F := funext e
  rw [this]
  exact E
theorem ARs.moved {w : Wd} (l : Nat) : ∀ {vs : List V} {xs : List (Ag Γ)} {Frs : List (Addr → Prop)}, ARs Γ w σ vs xs Frs → ARs Γ ⟨w.M, fun j a => w.F j a ∧ j ≠ l, w.H⟩ σ vs xs Frs
  | _, _, _, .nil => .nil
  | _, _, _, .cons (a := a) h d r => .cons (by
      cases a with
      | brw i => exact h
      | val s => exact ⟨h.rep, h.sub, fun a i f z => h.off a i f z.1⟩) d (ARs.moved l r)
theorem ARs.offs {w : Wd} : ∀ {vs : List V} {xs : List (Ag Γ)} {Frs : List (Addr → Prop)}, ARs Γ w σ vs xs Frs → ∀ G ∈ Frs, ∀ a, G a → ∀ i, ¬ w.F i a
  | _, _, _, .nil, G, hG => nomatch hG
  | _, _, _, .cons (a := x) h d r, G, hG => fun a ga i => by
    rcases List.mem_cons.mp hG with z | z
    · subst z
      cases x with
      | brw j => exact absurd ga (h.2 a)
      | val s => exact h.off a i ga
    · exact ARs.offs r G z a ga i
theorem take_ok : ∀ {xs : List (Ag Γ)} {vs : List V} {Frs : List (Addr → Prop)} {env : Env Γ} {w : Wd} {args : List (Sl Γ)} {env2 : Env Γ} {bs : List (Option Nat)}, ER Γ w σ env → ARs Γ w σ vs xs Frs → takeA xs env = some (args, env2, bs) →
    ∃ (Fc F2 : Nat → Addr → Prop), ER Γ ⟨w.M, Fc, w.H⟩ (vs.map some) args ∧ ER Γ ⟨w.M, F2, w.H⟩ σ env2 ∧ (∀ j a, Fc j a → (∃ i, w.F i a) ∨ ∃ G ∈ Frs, G a) ∧ (∀ i a, F2 i a → w.F i a) ∧ (∀ j i a, Fc j a → ¬ F2 i a) ∧
      bs.length = vs.length ∧ (∀ (j i : Nat), bs[j]? = some (some i) → ∃ v, vs[j]? = some v ∧ σ[i]? = some (some v) ∧ i < env2.length)
  | [], vs, Frs, env, w, args, env2, bs, E, A, h => by
    cases A
    cases h
    refine ⟨fun _ _ => False, w.F, ⟨rfl, fun i s h => by simp at h, fun _ _ f => f.elim, fun _ _ _ f => f.elim, E.dom, fun _ _ _ f => f⟩, E, fun _ _ f => f.elim, fun _ _ f => f, fun _ _ _ f => f.elim, rfl, fun j i h => by simp at h⟩
  | .val s :: xs, vs, Frs, env, w, args, env2, bs, E, A, h => by
    cases A with
    | @cons v vs a as Fr Frs hA hd A =>
      unfold takeA at h
      cases g : takeA xs env with
      | none => rw [g] at h; cases h
      | some q =>
        obtain ⟨args1, env3, bs1⟩ := q
        rw [g] at h
        cases h
        obtain ⟨Fc, F2, q1, q2, q3, q4, q5, q6, q7⟩ := take_ok E A g
        have T : TR Γ w v s Fr := hA
        refine ⟨fun j a => match j with | 0 => Fr a | j + 1 => Fc j a, F2, ER.consArg q1 T.rep T.sub fun a j f f' => ?_, q2, fun j a f => ?_, q4, fun j i a f f' => ?_, by simp [q6], fun j i hb => ?_⟩
        · rcases q3 j a f' with ⟨i, z⟩ | ⟨G, hG, z⟩
          · exact T.off a i f z
          · exact hd G hG a f z
        · cases j with
          | zero => exact .inr ⟨Fr, List.mem_cons_self, f⟩
          | succ j =>
            rcases q3 j a f with z | ⟨G, hG, z⟩
            · exact .inl z
            · exact .inr ⟨G, List.mem_cons_of_mem _ hG, z⟩
        · cases j with
          | zero => exact T.off a i f (q4 i a f')
          | succ j => exact q5 j i a f f'
        · cases j with
          | zero => cases hb
          | succ j =>
            obtain ⟨u, h1, h2⟩ := q7 j i (by simpa using hb)
            exact ⟨u, by simpa using h1, h2⟩
  | .brw l :: xs, vs, Frs, env, w, args, env2, bs, E, A, h => by
    cases A with
    | @cons v vs a as Fr Frs hA hd A =>
      unfold takeA at h
      cases g0 : got env[l]? with
      | none => simp only [g0] at h; cases h
      | some s =>
        simp only [g0] at h
        obtain ⟨v0, ev0, r0⟩ := E.at g0
        have hv : v = v0 := by
          have h1 := hA.1
          rw [ev0] at h1
          cases h1
          rfl
        subst hv
        split at h
        · rename_i no
          cases g : takeA xs env with
          | none => rw [g] at h; cases h
          | some q =>
            obtain ⟨args1, env3, bs1⟩ := q
            rw [g] at h
            cases h
            obtain ⟨Fc, F2, q1, q2, q3, q4, q5, q6, q7⟩ := take_ok E A g
            have nF := r0.none_own no
            refine ⟨fun j a => match j with | 0 => w.F l a | j + 1 => Fc j a, F2, ER.consArg q1 r0 (fun a f => E.sub l a f) (fun a j f f' => nF a f), q2, fun j a f => ?_, q4, fun j i a f f' => ?_, by simp [q6], fun j i hb => ?_⟩
            · cases j with
              | zero => exact .inl ⟨l, f⟩
              | succ j =>
                rcases q3 j a f with z | ⟨G, hG, z⟩
                · exact .inl z
                · exact .inr ⟨G, List.mem_cons_of_mem _ hG, z⟩
            · cases j with
              | zero => exact nF a f
              | succ j => exact q5 j i a f f'
            · cases j with
              | zero => cases hb
              | succ j =>
                obtain ⟨u, h1, h2⟩ := q7 j i (by simpa using hb)
                exact ⟨u, by simpa using h1, h2⟩
        · cases g : takeA xs (env.set l .none) with
          | none => rw [g] at h; cases h
          | some q =>
            obtain ⟨args1, env3, bs1⟩ := q
            rw [g] at h
            cases h
            have E' := E.moved l
            have A' := A.moved l
            obtain ⟨Fc, F2, q1, q2, q3, q4, q5, q6, q7⟩ := take_ok E' A' g
            refine ⟨fun j a => match j with | 0 => w.F l a | j + 1 => Fc j a, F2, ER.consArg q1 r0 (fun a f => E.sub l a f) (fun a j f f' => ?_), q2, fun j a f => ?_, fun i a f => (q4 i a f).1, fun j i a f f' => ?_, by simp [q6], fun j i hb => ?_⟩
            · rcases q3 j a f' with ⟨i, z⟩ | ⟨G, hG, z⟩
              · exact z.2 (E.dis i l a z.1 f)
              · exact A.offs G hG a z l f
            · cases j with
              | zero => exact .inl ⟨l, f⟩
              | succ j =>
                rcases q3 j a f with ⟨i, z⟩ | ⟨G, hG, z⟩
                · exact .inl ⟨i, z.1⟩
                · exact .inr ⟨G, List.mem_cons_of_mem _ hG, z⟩
            · cases j with
              | zero => exact (q4 i a f').2 (E.dis i l a (q4 i a f').1 f)
              | succ j => exact q5 j i a f f'
            · cases j with
              | zero =>
                cases hb
                refine ⟨v, rfl, ev0, ?_⟩
                have h1 : env3.length = σ.length := q2.len
                have h3 := (List.getElem?_eq_some_iff.mp ev0).1
                show l < env3.length
                omega
              | succ j =>
                obtain ⟨u, h1, h2⟩ := q7 j i (by simpa using hb)
                exact ⟨u, by simpa using h1, h2⟩
theorem List.set_self' {α : Type} {l : List α} {i : Nat} {a : α} (h : l[i]? = some a) : l.set i a = l := by
  apply List.ext_getElem?
  intro j
  rw [List.getElem?_set]
  by_cases e : i = j
  · subst e
    rw [if_pos rfl, h, if_pos (List.getElem?_eq_some_iff.mp h).1]
  · rw [if_neg e]
theorem putA_len : ∀ (bs : List (Option Nat)) (ss : List (Sl Γ)) (env : Env Γ), (putA bs ss env).length = env.length
  | some i :: bs, s :: ss, env => by unfold putA; rw [List.length_set, putA_len bs ss env]
  | none :: bs, _ :: ss, env => by unfold putA; exact putA_len bs ss env
  | [], _, _ => by unfold putA; rfl
  | some _ :: _, [], _ => by unfold putA; rfl
  | none :: _, [], _ => by unfold putA; rfl
theorem put_ok : ∀ (bs : List (Option Nat)) (ss : List (Sl Γ)) (vs : List V) (Gs : Nat → Addr → Prop) (w : Wd) (env : Env Γ), ER Γ w σ env →
    (∀ (j : Nat) (s : Sl Γ), ss[j]? = some s → (s = .none ∧ ∀ a, ¬ Gs j a) ∨ ∃ v, vs[j]? = some v ∧ SR Γ w.M w.H v s (Gs j)) → (∀ j a, Gs j a → w.M a ∧ ∀ i, ¬ w.F i a) → (∀ j j' a, Gs j a → Gs j' a → j = j') →
    (∀ (j i : Nat), bs[j]? = some (some i) → ∃ v, vs[j]? = some v ∧ σ[i]? = some (some v) ∧ i < env.length) →
    ∃ F', ER Γ ⟨w.M, F', w.H⟩ σ (putA bs ss env) ∧ ∀ i a, F' i a → w.F i a ∨ ∃ j, bs[j]? = some (some i) ∧ Gs j a
  | [], ss, vs, Gs, w, env, E, hs, hG, hd, hb => ⟨w.F, by unfold putA; exact E, fun i a f => .inl f⟩
  | b :: bs, [], vs, Gs, w, env, E, hs, hG, hd, hb => ⟨w.F, by cases b <;> (unfold putA; exact E), fun i a f => .inl f⟩
  | none :: bs, s :: ss, vs, Gs, w, env, E, hs, hG, hd, hb => by
    obtain ⟨F', E', h'⟩ := put_ok bs ss vs.tail (fun j => Gs (j + 1)) w env E (fun j t e => by
        rcases hs (j + 1) t (by simpa using e) with z | ⟨v, e1, r⟩
        · exact .inl z
        · exact .inr ⟨v, by rw [List.getElem?_tail]; exact e1, r⟩) (fun j a g => hG (j + 1) a g) (fun j j' a g g' => by have := hd (j + 1) (j' + 1) a g g'; omega) (fun j i e => by
        obtain ⟨v, e1, e2⟩ := hb (j + 1) i (by simpa using e)
        exact ⟨v, by rw [List.getElem?_tail]; exact e1, e2⟩)
    exact ⟨F', by unfold putA; exact E', fun i a f => (h' i a f).imp id fun ⟨j, b, g⟩ => ⟨j + 1, by simpa using b, g⟩⟩
  | some l :: bs, s :: ss, vs, Gs, w, env, E, hs, hG, hd, hb => by
    obtain ⟨F', E', h'⟩ := put_ok bs ss vs.tail (fun j => Gs (j + 1)) w env E (fun j t e => by
        rcases hs (j + 1) t (by simpa using e) with z | ⟨v, e1, r⟩
        · exact .inl z
        · exact .inr ⟨v, by rw [List.getElem?_tail]; exact e1, r⟩) (fun j a g => hG (j + 1) a g) (fun j j' a g g' => by have := hd (j + 1) (j' + 1) a g g'; omega) (fun j i e => by
        obtain ⟨v, e1, e2⟩ := hb (j + 1) i (by simpa using e)
        exact ⟨v, by rw [List.getElem?_tail]; exact e1, e2⟩)
    obtain ⟨v, e1, e2, e3⟩ := hb 0 l rfl
    rcases hs 0 s rfl with ⟨z1, z2⟩ | ⟨v', e1', r⟩
    · subst z1
      have E2 := E'.moved l
      refine ⟨fun j a => F' j a ∧ j ≠ l, by unfold putA; exact E2, fun i a f => (h' i a f.1).imp id fun ⟨j, b, g⟩ => ⟨j + 1, by simpa using b, g⟩⟩
    · rw [e1] at e1'
      cases e1'
      have T : TR Γ ⟨w.M, F', w.H⟩ v s (Gs 0) := ⟨r, fun a g => (hG 0 a g).1, fun a i g f => by
        rcases h' i a f with z | ⟨j, _, z⟩
        · exact (hG 0 a g).2 i z
        · have := hd 0 (j + 1) a g z; omega⟩
      have E2 := E'.set T (i := l) (by rw [putA_len]; exact e3)
      rw [List.set_self' e2] at E2
      refine ⟨fun j a => if j = l then Gs 0 a else F' j a, by unfold putA; exact E2, fun i a f => ?_⟩
      have f' : (if i = l then Gs 0 a else F' i a) := f
      split at f'
      · rename_i ei
        exact .inr ⟨0, by rw [ei]; rfl, f'⟩
      · exact (h' i a f').imp id fun ⟨j, b, g⟩ => ⟨j + 1, by simpa using b, g⟩
theorem call_coreX {np : Nat} {g : Fn Γ} {env env1 env2 : Env Γ} {xs : List (Ag Γ)} {vs : List V} {Frs : List (Addr → Prop)} {args args' : List (Sl Γ)} {bs : List (Option Nat)} {r : Sl Γ} {w w1 : Wd} {Q : VK} {E0 : XK} (E : ER Γ w σ env) (p1 : Step w w1) (E1 : ER Γ w1 σ env1) (A1 : ARs Γ w1 σ vs xs Frs) (f1 : ∀ G ∈ Frs, Fresh w G)
    (g2 : takeA xs env1 = some (args, env2, bs)) (hn : args.length = np) (g3 : g args = some (r, args')) (k : ∀ v w' Fr, ER Γ w' σ (putA bs args' env2) → TR Γ w' v r Fr → Step w w' → Fresh w Fr → (∀ (j : Nat) (s : Sl Γ), args'[j]? = some s → bs[j]? = some none → s = .none ∨ ∃ u G, vs[j]? = some u ∧ TR Γ w' u s G ∧ Fresh w G) → Q v w'.H) : spG Γ np g vs w1.H Q E0 := by
  obtain ⟨Fc, F2, Ec, E2, c1, c2, c3, c4, c5⟩ := take_ok E1 A1 g2
  refine ⟨args, r, args', ⟨w1.M, Fc, w1.H⟩, g3, hn, rfl, Ec, fun v wc Fr Ec' T' pc fc => ?_⟩
  -- the slots that were not lent
  have gc := Ec.go pc
  have keep2 : ∀ i a u, F2 i a → w1.H a = some u → wc.H a = some u := fun i a u f e => pc.keep a u (fun j z => c3 j i a z f) e
  have E3 : ER Γ ⟨wc.M, F2, wc.H⟩ σ env2 := by
    refine ⟨E2.len, fun i s hs => ?_, fun i a f => pc.mu a (fun j z => c3 j i a z f) (E2.sub i a f), E2.dis, Ec'.dom, E2.out⟩
    rcases E2.slot i s hs with z | ⟨u, eu, ru⟩
    · exact .inl z
    · exact .inr ⟨u, eu, ru.go gc fun a o f e => keep2 i a o f e⟩
  have off2 : ∀ a, ((∃ j, Fc j a) ∨ w1.H a = none) → ∀ i, ¬ F2 i a := fun a h i f => by
    rcases h with ⟨j, z⟩ | z
    · exact c3 j i a z f
    · exact E2.dom a (E2.sub i a f) z
  obtain ⟨F', E4, h4⟩ := put_ok bs args' vs wc.F ⟨wc.M, F2, wc.H⟩ env2 E3 (fun j s hs => by
      rcases Ec'.slot j s hs with z | ⟨u, eu, ru⟩
      · exact .inl z
      · refine .inr ⟨u, ?_, ru⟩
        rw [List.getElem?_map] at eu
        cases q : vs[j]? with
        | none => rw [q] at eu; cases eu
        | some x => rw [q] at eu; cases eu; rfl)
    (fun j a f => ⟨Ec'.sub j a f, off2 a (pc.own j a f)⟩) Ec'.dis c5
  have fw : ∀ a, ((∃ j, Fc j a) ∨ w1.H a = none) → (∃ i, w.F i a) ∨ w.H a = none := fun a h => by
    have back : w1.H a = none → w.H a = none := fun z => by
      cases q : w.H a with
      | none => rfl
      | some u => exact absurd z (p1.live a (by rw [q]; simp))
    rcases h with ⟨j, z⟩ | z
    · rcases c1 j a z with ⟨i, y⟩ | ⟨G, hG, y⟩
      · exact p1.own i a y
      · exact f1 G hG a y
    · exact .inr (back z)
  have nFc : ∀ a, (∀ i, ¬ w.F i a) → w.H a ≠ none → ∀ j, ¬ Fc j a := fun a h hn j z => (fw a (.inl ⟨j, z⟩)).elim (fun ⟨i, y⟩ => h i y) hn
  refine k v ⟨wc.M, F', wc.H⟩ Fr E4 ⟨T'.rep, T'.sub, fun a i f z => ?_⟩ ⟨fun a u h e => ?_, fun a h m => ?_, fun a m => ?_, fun i a f => ?_, fun a h => ?_⟩ (fun a f => fw a (fc a f)) ?_
  · rcases h4 i a z with y | ⟨j, _, y⟩
    · exact off2 a (fc a f) i y
    · exact T'.off a j f y
  · exact pc.keep a u (nFc a h (by rw [e]; simp)) (p1.keep a u h e)
  · exact pc.mu a (nFc a h (E.dom a m)) (p1.mu a h m)
  · rcases pc.src a m with z | z
    · exact p1.src a z
    · refine .inr ?_
      cases q : w.H a with
      | none => rfl
      | some u => exact absurd z (p1.live a (by rw [q]; simp))
  · rcases h4 i a f with y | ⟨j, _, y⟩
    · exact p1.own i a (c2 i a y)
    · exact fw a (pc.own j a y)
  · exact pc.live a (p1.live a h)
  · intro j s hs hb
    rcases Ec'.slot j s hs with ⟨z, _⟩ | ⟨u, eu, ru⟩
    · exact .inl z
    · refine .inr ⟨u, wc.F j, ?_, ⟨ru, fun a f => Ec'.sub j a f, fun a i f z => ?_⟩, fun a f => fw a (pc.own j a f)⟩
      · rw [List.getElem?_map] at eu
        cases q : vs[j]? with
        | none => rw [q] at eu; cases eu
        | some x => rw [q] at eu; cases eu; rfl
      · rcases h4 i a z with y | ⟨j', b, y⟩
        · exact off2 a (pc.own j a f) i y
        · have ej := Ec'.dis j' j a y f
          subst ej
          rw [hb] at b
          cases b
theorem call_core {np : Nat} {g : Fn Γ} {env env1 env2 : Env Γ} {xs : List (Ag Γ)} {vs : List V} {Frs : List (Addr → Prop)} {args args' : List (Sl Γ)} {bs : List (Option Nat)} {r : Sl Γ} {w w1 : Wd} {Q : VK} {E0 : XK} (E : ER Γ w σ env) (p1 : Step w w1) (E1 : ER Γ w1 σ env1) (A1 : ARs Γ w1 σ vs xs Frs) (f1 : ∀ G ∈ Frs, Fresh w G)
    (g2 : takeA xs env1 = some (args, env2, bs)) (hn : args.length = np) (g3 : g args = some (r, args')) (k : ∀ v w' Fr, ER Γ w' σ (putA bs args' env2) → TR Γ w' v r Fr → Step w w' → Fresh w Fr → Q v w'.H) : spG Γ np g vs w1.H Q E0 := by
  exact call_coreX E p1 E1 A1 f1 g2 hn g3 fun v w' Fr a b c d _ => k v w' Fr a b c d
theorem call_run {np : Nat} {g : Fn Γ} {es : List Expr} {as : List (AE Γ)} {env env' : Env Γ} {r : Sl Γ} {w : Wd} {Q : VK} {E0 : XK} (hK : Gd Γ X) (ha : SdL Γ X es as) (he : mCall np g as env = some (r, env')) (E : ER Γ w σ env)
    (k : ∀ v w' Fr, ER Γ w' σ env' → TR Γ w' v r Fr → Step w w' → Fresh w Fr → Q v w'.H) : wL X es σ w.H fun vs H1 => spG Γ np g vs H1 Q E0 := by
  unfold mCall at he
  cases g1 : evAs as env with
  | none => simp only [g1] at he; cases he
  | some q =>
    obtain ⟨xs, env1⟩ := q
    simp only [g1] at he
    cases g2 : takeA xs env1 with
    | none => simp only [g2] at he; cases he
    | some q =>
      obtain ⟨args, env2, bs⟩ := q
      simp only [g2] at he
      split at he
      · rename_i hn
        cases g3 : g args with
        | none => simp only [g3] at he; cases he
        | some q =>
          obtain ⟨r1, args'⟩ := q
          simp only [g3] at he
          cases he
          exact sdl_run hK ha g1 E fun vs w1 Frs E1 A1 p1 f1 => call_core E p1 E1 A1 f1 g2 hn g3 k
      · cases he
/-- a def of the text as it may be called -/
structure Df (Γ : Gam) (X : Cx) (x : Str) (np : Nat) (g : Fn Γ) : Prop where
  ex : ∃ k f fd ps, FnOk X.prog X.w X.K X.mg X.base CX0 k f fd ps (spG Γ np g) ∧ Room k X.A ∧ X.mg x = some (.ref f) ∧ PySem.W.keepIn X.K (.ref f) = true ∧ Binds X.K fd ps []
theorem sd_call {x : Str} {np : Nat} {g : Fn Γ} {e : Expr} {es : List Expr} {as : List (AE Γ)} {p pos : Pos} (h : Df Γ X x np g) (hg : Gl X x) (ha : SdL Γ X (e :: es) as) (hdb : (x == ("__debug__" : Str)) = false := by decide) (hpl : (backTo pos (starEach es X.env)).any (·.1) = false := by rfl) :
    SdE Γ X (.Call (.Name x p) (e :: es) [] pos) (mCall np g as) := by
  obtain ⟨k, f, fd, ps, h1, h2, h3, h4, h5⟩ := h
  intro hK σ env r env' w Q he E k
  refine wE.of (pe_call (E := E0) h1 h2 hg h3 h4 h5 .nil pass0 (pa_wL ha.ns) hdb (ha.ns e List.mem_cons_self es) hpl) ?_
  unfold tCall
  simp only [List.append_nil]
  exact call_run hK ha he E k
theorem sd_call0 {x : Str} {g : Fn Γ} {p pos : Pos} (h : Df Γ X x 0 g) (hg : Gl X x) (hdb : (x == ("__debug__" : Str)) = false := by decide) : SdE Γ X (.Call (.Name x p) [] [] pos) (mCall 0 g []) := by
  obtain ⟨k, f, fd, ps, h1, h2, h3, h4, h5⟩ := h
  intro hK σ env r env' w Q he E k
  exact wE.of (pe_call0 (E := E0) h1 h2 hg h3 h4 h5 .nil pass0 hdb) (call_run hK .nil he E k)
end
end G

/-! G13: isinstance, methods of texts, sorted, walks over texts and enumerate -/
namespace G
open PySem L2

/-! ### isinstance(x, T) -/
def D.ty : D → Option String
  | .non => some "NoneType"
  | .bl _ => some "bool"
  | .int _ => some "int"
  | .str _ => some "str"
  | .tup _ => some "tuple"
  | .lst _ => some "list"
  | .ins _ _ => none
  | .odd => some "dict"
def isT (T : String) : D → Option Bool
  | .non => if T = "NoneType" then none else some false
  | .bl _ => if T = "bool" ∨ T = "int" then some true else if T = "str" ∨ T = "tuple" ∨ T = "list" then some false else none
  | .int _ => if T = "int" then some true else if T = "bool" ∨ T = "str" ∨ T = "tuple" ∨ T = "list" then some false else none
  | .str _ => if T = "str" then some true else if T = "int" ∨ T = "bool" ∨ T = "tuple" ∨ T = "list" then some false else none
  | .tup _ => if T = "tuple" then some true else if T = "int" ∨ T = "bool" ∨ T = "str" ∨ T = "list" then some false else none
  | .lst _ => if T = "list" then some true else if T = "int" ∨ T = "bool" ∨ T = "str" ∨ T = "tuple" then some false else none
  | .ins _ _ => none
  | .odd => if T = "int" ∨ T = "bool" ∨ T = "str" ∨ T = "tuple" ∨ T = "list" then some false else none
/-- T is one of the five -/
def fiveTy (T : String) : Prop := T = "int" ∨ T = "bool" ∨ T = "str" ∨ T = "tuple" ∨ T = "list"
theorem isT_kit {T : String} (h5 : fiveTy T) {d : D} {b : Bool} (h : isT T d = some b) : ∃ a, d.ty = some a ∧ kitB a T = some b := by
  rcases h5 with rfl | rfl | rfl | rfl | rfl <;> (cases d <;> first | (refine ⟨_, rfl, ?_⟩; simp [isT] at h; subst h; decide +kernel) | (exact absurd h (by simp [isT])))
def pIsi {Γ : Gam} (T : String) (s : Sl Γ) : Option (Sl Γ) :=
  match s.view with
  | some d => (isT T d).map db
  | none => none
section
variable {Γ : Gam} {X : Cx} {A : List Nat} {a b e : Expr} {es : List Expr} {fa fb : AE Γ} {f g : Ev Γ} {pos : Pos}
theorem SR.tyx {M : Addr → Prop} {H : Hp} {v : V} {s : Sl Γ} {G' : Addr → Prop} {d : D} {t : String} (h : SR Γ M H v s G') (e : s.view = some d) (ht : d.ty = some t) : TyX Γ.K H v (.type t) := by
  cases d with
  | non => cases ht; cases h.non e; exact .base .non
  | bl b => cases ht; cases h.bl e; exact .base (.bl b)
  | int i => cases ht; cases h.int e; exact .base (.int i)
  | str x => cases ht; cases h.str e; exact .base (.str x)
  | tup ds =>
    cases ht
    obtain ⟨p, vs, rfl, hp, r⟩ := h.tuple e
    rcases hp with ⟨_, hp | ⟨o, hp⟩⟩ | hp
    · exact .base (.tup hp)
    · exact .fTuple hp
    · rcases hp (fun _ => none) with (z | ⟨_, z⟩) | ⟨o, its, n, h1, h2, _⟩
      · cases z
      · cases z
      · exact .kTuple h1 h2
  | lst ds =>
    cases ht
    cases s with
    | dat d =>
      cases e
      cases h.1 with
      | lst n hp r => exact .base (.lst hp)
    | lst es => cases e; obtain ⟨p, vs, rfl, hp, r, n⟩ := h; exact .base (.lst hp)
    | scr ns =>
      obtain ⟨⟨p, rfl, hp⟩, n⟩ := h
      rcases hp with ⟨_, hp | ⟨o, hp⟩⟩ | hp
      · exact .base (.lst hp)
      · exact .base (.frz hp)
      · rcases hp (fun _ => none) with (z | ⟨_, z⟩) | ⟨o, its, n, h1, h2, _⟩
        · cases z
        · cases z
        · exact .kList h1 h2
    | _ => cases e
  | ins _ _ => cases ht
  | odd =>
    cases ht
    cases s with
    | dat d =>
      cases e
      cases h.1 with
      | odd n hp => exact .base (.dK hp)
    | _ => cases e
theorem sd_isi {T : String} {T' : Str} {p p2 : Pos} (h5 : fiveTy T) (hg : Gl X "isinstance") (hm : X.mg "isinstance" = none) (hgT : Gl X T') (hmT : X.mg T' = none) (hvT : bootBuiltins T' = some (.type T)) (ha : SdA Γ X a fa) (na : NS X a) (hnT : T' ≠ "__name__" := by decide) (hdT : (T' == ("__debug__" : Str)) = false := by decide)
    (hs2 : ∀ es, starEach (.Name T' p2 :: es) X.env = (false, eval (.Name T' p2) X.env) :: starEach es X.env := by intro _; rfl) (hpl : (backTo pos (starEach [.Name T' p2] X.env)).any (·.1) = false := by rfl) :
    SdE Γ X (.Call (.Name "isinstance" p) [a, .Name T' p2] [] pos) (m1 (pIsi T) fa) := by
  intro hK σ env r env' w Q he E k
  refine wE.of (pe_callB (id := "isinstance") (x := "isinstance") call_isi hg hm PyProof.Rows.boot_isinstance (pa_cons pe_wE (pa_cons (pe_bltn (v := .ty T) hgT hmT hvT rfl hnT hdT) pa_nil (hs2 [])) (na _)) (by decide) (by decide) (na _) hpl) ?_
  refine run1 (r := fun x H Q => rIsi Γ.K [x, .ty T] H Q) ?_ ha hK he E k |>.mono fun x H1 q => (hK.k ▸ q : rIsi X.K [x, .ty T] H1 Q)
  intro M H x sx s Gx Q dom hp hx k
  unfold pIsi at hp
  split at hp
  · rename_i d g1
    cases g2 : isT T d with
    | none => rw [g2] at hp; cases hp
    | some b =>
      rw [g2] at hp
      cases hp
      obtain ⟨t, h1, h2⟩ := isT_kit h5 g2
      exact ⟨x, .ty T, .type t, .type T, b, rfl, .ty T, hx.tyx g1 h1, kit_ty h2, k.dat (.bl _)⟩
  · cases hp

/-! ### methods of texts with one argument -/
def mM1 {Γ : Gam} (p : Str → Sl Γ → Option (Sl Γ)) (f : Ev Γ) (a : AE Γ) : Ev Γ := fun env =>
  match f env with
  | some (.dat (.str z), env1) => match evA a env1 with
    | none => none
    | some (x, env2) => match peek x env2 with
      | none => none
      | some sx => (p z sx).map fun s => (s, env2)
  | _ => none
theorem m1_run {r : V → List V → Hp → VK → Prop} {p : Str → Sl Γ → Option (Sl Γ)} {σ : St} {env env' : Env Γ} {w : Wd} {s : Sl Γ} {Q : VK} (hp : ∀ z, Prim1 Γ (fun y H Q => r (.str z) [y] H Q) (p z)) (hf : SdE Γ X a f) (hb : SdA Γ X b fb) (hK : Gd Γ X) (he : mM1 p f fb env = some (s, env')) (E : ER Γ w σ env)
    (k : ∀ v w' Fr, ER Γ w' σ env' → TR Γ w' v s Fr → Step w w' → Fresh w Fr → Q v w'.H) : tM1 r (wE X a) (wE X b) σ w.H Q := by
  unfold mM1 at he
  split at he
  · rename_i z env1 g1
    refine hf hK σ env _ _ w _ g1 E fun v w1 Fr E1 T1 p1 f1 => ?_
    cases T1.rep.str rfl
    refine ⟨⟨z, rfl⟩, ?_⟩
    have q := run1 (hp z) hb hK (env := env1) (env' := env') (s := s) (w := w1) (Q := Q) (by unfold m1; exact he) E1 fun v2 w2 Fr2 E2 T2 p2 f2 => k v2 w2 Fr2 E2 T2 (p1.trans p2 E.dom) (f2.back p1)
    exact q
  · cases he
theorem strs_dats {M : Addr → Prop} {H : Hp} : ∀ ys : List Str, Dats Γ M H (ys.map V.str) (ys.map D.str)
  | [] => .nil
  | y :: ys => .cons (.str y) (strs_dats ys)
def allStr : List D → Option (List Str)
  | [] => some []
  | .str s :: r => (allStr r).map (s :: ·)
  | _ => none
theorem allStr_ok {M : Addr → Prop} {H : Hp} : ∀ {vs : List V} {ds : List D} {ys : List Str}, Dats Γ M H vs ds → allStr ds = some ys → vs = ys.map V.str
  | _, _, _, .nil, e => by cases e; rfl
  | _, _, _, .cons (d := d) (ds := ds) h r, e => by
    cases d with
    | str b =>
      unfold allStr at e
      cases g : allStr ds with
      | none => rw [g] at e; cases e
      | some es =>
        rw [g] at e
        cases e
        cases h
        rw [allStr_ok r g]
        rfl
    | _ => cases e
def pJoin {Γ : Gam} (z : Str) (s : Sl Γ) : Option (Sl Γ) :=
  match s.view with
  | some (.lst ds) => match allStr ds with
    | some ys => if (ys.map (·.length)).sum + ys.length * z.length ≤ 16777216 then some (.dat (.str (Txt.join z ys))) else none
    | none => none
  | some (.tup ds) => match allStr ds with
    | some ys => if (ys.map (·.length)).sum + ys.length * z.length ≤ 16777216 then some (.dat (.str (Txt.join z ys))) else none
    | none => none
  | _ => none
theorem pJoin_ok (z : Str) : Prim1 Γ (fun y H Q => ∃ a p, ∃ ys : List Str, V.str z = .str a ∧ [y] = [.ref p] ∧ (SqL Γ.K H p (ys.map V.str) ∨ SqT Γ.K H p (ys.map V.str)) ∧ (ys.map (·.length)).sum + ys.length * a.length ≤ 16777216 ∧ Q (.str (Txt.join a ys)) H) (pJoin z) := by
  intro M H x sx s Gx Q dom hp hx k
  unfold pJoin at hp
  split at hp
  · rename_i ds g1
    split at hp
    · rename_i ys g2
      split at hp
      · rename_i hl
        cases hp
        obtain ⟨p, vs, rfl, hq, r⟩ := hx.list g1
        have ev := allStr_ok r g2
        subst ev
        exact ⟨z, p, ys, rfl, rfl, .inl hq, hl, k.dat (.str _)⟩
      · cases hp
    · cases hp
  · rename_i ds g1
    split at hp
    · rename_i ys g2
      split at hp
      · rename_i hl
        cases hp
        obtain ⟨p, vs, rfl, hq, r⟩ := hx.tuple g1
        have ev := allStr_ok r g2
        subst ev
        exact ⟨z, p, ys, rfl, rfl, .inr hq.sq, hl, k.dat (.str _)⟩
      · cases hp
    · cases hp
  · cases hp
theorem sd_join {apos : Pos} (hf : SdE Γ X a f) (hb : SdA Γ X b fb) (nb : NS X b) (hbase : attributeBase a "join" X.env (eval a X.env) = eval a X.env := by rfl) (hline : (apos.endLine == pos.line) = true := by rfl) : SdE Γ X (.Call (.Attribute a "join" apos) [b] [] pos) (mM1 pJoin f fb) := by
  intro hK σ env r env' w Q he E k
  refine wE.of (pe_join pe_wE pe_wE (nb []) hbase hline) ?_
  rw [← hK.k]
  exact m1_run pJoin_ok hf hb hK he E k
def pSplit {Γ : Gam} (z : Str) (s : Sl Γ) : Option (Sl Γ) :=
  match s.view with
  | some (.str y) => if (y.length == 0) = false ∧ z.length + 2 ≤ sizeLine then some (.lst ((Txt.split z y).map .str)) else none
  | _ => none
theorem pSplit_ok (z : Str) : Prim1 Γ (fun y H Q => ∃ a b, V.str z = .str a ∧ [y] = [V.str b] ∧ (b.length == 0) = false ∧ a.length + 2 ≤ sizeLine ∧ rNewStrs (Txt.split a b) H Q) (pSplit z) := by
  intro M H x sx s Gx Q dom hp hx k
  unfold pSplit at hp
  split at hp
  · rename_i y g1
    split at hp
    · rename_i hl
      cases hp
      cases hx.str g1
      exact ⟨z, y, rfl, rfl, hl.1, hl.2, fun p hp => k.lst (strs_dats _) hp⟩
    · cases hp
  · cases hp
theorem sd_split {apos : Pos} (hf : SdE Γ X a f) (hb : SdA Γ X b fb) (nb : NS X b) (hbase : attributeBase a "split" X.env (eval a X.env) = eval a X.env := by rfl) (hline : (apos.endLine == pos.line) = true := by rfl) : SdE Γ X (.Call (.Attribute a "split" apos) [b] [] pos) (mM1 pSplit f fb) := by
  intro hK σ env r env' w Q he E k
  exact wE.of (pe_split pe_wE pe_wE (nb []) hbase hline) (m1_run pSplit_ok hf hb hK he E k)

/-! ### walks over a text, enumerate -/
def iTxt {Γ : Gam} (f : Ev Γ) : Ei Γ := fun env =>
  match f env with
  | some (.dat (.str z), env') => some (z.cps.toList.map fun c => .str ⟨#[c]⟩, env')
  | _ => none
theorem sdi_str {tg iter : Expr} (h : SdE Γ X iter f) : SdI Γ X tg iter (iTxt f) := by
  intro hK σ env ds env' w R he E k
  unfold iTxt at he
  split at he
  · rename_i z env1 g1
    cases he
    refine wI.of (pi_str pe_wE) (h hK σ env _ _ w _ g1 E fun v w1 Fr E1 T1 p1 f1 => ⟨z, T1.rep.str rfl, k _ w1 E1 p1 ?_⟩)
    refine ⟨fun M' H' g _ i d e => ?_, fun M' H' g => ?_⟩
    · rw [List.getElem?_map] at e
      cases q : z.cps.toList[i]? with
      | none => rw [q] at e; cases e
      | some c =>
        rw [q] at e
        cases e
        have hi := (List.getElem?_eq_some_iff.mp q).1
        refine ⟨(by show i < z.cps.size; simpa using hi), fun x H2 y => ?_⟩
        obtain ⟨rfl, c', ec, rfl⟩ := y
        have : c' = c := by
          have q' : z.cps[i]? = some c := by simpa using q
          rw [ec] at q'
          exact Option.some.inj q'
        subst this
        exact ⟨fun _ _ z => z, .str _⟩
    · show z.cps.size ≤ _
      rw [List.length_map]
      simp
  · cases he
def iEnu {Γ : Gam} (f : Ev Γ) : Ei Γ := fun env =>
  match f env with
  | some (.dat (.lst ds), env') => some (ds.zipIdx.map fun q => .tup [.int (q.2 : Nat), q.1], env')
  | _ => none
theorem sdi_enum {elts : List Expr} {kk : Nat} {tpos p : Pos} (hg : Gl X "enumerate") (hm : X.mg "enumerate" = none) (ha : SdE Γ X a f) (hs : NS X a) : SdI Γ X (.Tuple elts kk tpos) (.Call (.Name "enumerate" p) [a] [] pos) (iEnu f) := by
  intro hK σ env ds env' w R he E k
  refine wI.of (pi_enum hg hm (pa_wL (es := [a]) fun e h => by rw [List.mem_singleton.mp h]; exact hs) (hs [])) ?_
  unfold iEnu at he
  split at he
  · rename_i es env1 g1
    cases he
    refine ha hK σ env _ _ w _ g1 E fun v w1 Fr E1 T1 p1 f1 => ?_
    cases T1.rep.1 with
    | @lst a vs _ n hp r =>
      refine ⟨a, vs, rfl, SqL.of hp, ?_⟩
      rw [← hK.k]
      refine k _ w1 E1 p1 ⟨fun M' H' g dom i d e => ?_, fun M' H' g => ⟨vs, SqL.of (g.keep a _ n hp), by rw [r.length, List.length_map, List.length_zipIdx]; exact Nat.le_refl _⟩⟩
      rw [List.getElem?_map, List.getElem?_zipIdx] at e
      cases q : es[i]? with
      | none => rw [q] at e; cases e
      | some d0 =>
        rw [q] at e
        cases e
        obtain ⟨u, eu, hu⟩ := r.get q
        refine ⟨⟨vs, u, SqL.of (g.keep a _ n hp), eu⟩, fun x H2 y => ?_⟩
        obtain ⟨T, x0, rfl, hT, rfl, hx⟩ := y
        have e0 := hx vs (SqL.of (g.keep a _ n hp))
        rw [eu] at e0
        cases e0
        refine ⟨upd_keep hT, .tup (.inl ⟨fun m => dom T m hT, .inl upd_same⟩) (.cons (by rw [Nat.zero_add]; exact .int _) (.cons ((hu.go g).go ⟨fun a' u' _ e' => upd_keep hT a' u' e', fun _ n' _ => n'⟩) .nil))⟩
  · cases he
end
end G

/-! G14: names of the module, sorted -/
namespace G
open PySem L2
def pMax2 {Γ : Gam} : Sl Γ → Sl Γ → Option (Sl Γ) := p0 fun i j => .int (if j > i then j else i)
def pMin2 {Γ : Gam} : Sl Γ → Sl Γ → Option (Sl Γ) := p0 fun i j => .int (if j < i then j else i)
def pAll {Γ : Gam} : Sl Γ → Option (Sl Γ) := pBools fun bs => bs.all id
def pAny {Γ : Gam} : Sl Γ → Option (Sl Γ) := pBools fun bs => bs.any id
/-- a def of the module -/
structure Ca (Γ : Gam) (P : Program) (w : World) (mg : Str → Option Value) (base : Heap) (x : Str) (np : Nat) (g : Fn Γ) (k : Nat) : Prop where
  ex : ∃ f fd ps, FnOk P w Γ.K mg base CX0 k f fd ps (spG Γ np g) ∧ mg x = some (.ref f) ∧ PySem.W.keepIn Γ.K (.ref f) = true ∧ Binds Γ.K fd ps []
theorem Ca.df {Γ : Gam} {X : Cx} {x : Str} {np : Nat} {g : Fn Γ} {k j : Nat} (hK : Γ.K = X.K) (c : Ca Γ X.prog X.w X.mg X.base x np g k) (hr : Room j X.A) (h : k ≤ j) : Df Γ X x np g := by
  obtain ⟨f, fd, ps, h1, h2, h3, h4⟩ := c
  exact ⟨k, f, fd, ps, hK ▸ h1, hr.mono h, h2, hK ▸ h3, hK ▸ h4⟩
theorem fn_okG {Γ : Gam} {P : Program} {w : World} {mg : Str → Option Value} {base : Heap} {x qual : Str} {st : Stmt} {f : Addr} {fd : FuncData} {N ps : List Str} {k np loc : Nat} {A : List Nat} {body : Es Γ} {g : Fn Γ} (F : Fun Γ.K x qual st f fd) (S : FnScope N ps (defScope st))
    (e1 : ps.length = np) (e2 : N.length - np = loc) (e3 : g = mFun np loc A body)
    (hb : ∀ (cdv : Value) (Ar : Around) (outer : List PySem.Env) (s : Shared) (H : Hp) (E : XK), Room k (Ar.deeper (PyProof.Rows.envOfC qual (defScope st) s.heap.objs.size f cdv)) → SdSs Γ (cxOf CX0 P w Γ.K mg base N qual (defScope st) f cdv Ar outer s H E).nox A (defBody st) body) :
    FnOk P w Γ.K mg base CX0 (k + 1) f fd ps (spG Γ np g) := by
  subst e1 e2 e3
  exact fn_ok F S hb
section
variable {Γ : Gam} {X : Cx} {pos : Pos}
theorem sd_gI {x : Str} {i : Int} (hg : Gl X x) (hm : ∃ t, X.mg x = some (.int i t)) (hd : (x == ("__debug__" : Str)) = false := by decide) : SdE Γ X (.Name x pos) (mC (.int i)) := by
  obtain ⟨t, hm⟩ := hm
  exact sd_gint hg hm hd
theorem sd_gS {x z : Str} (hg : Gl X x) (hm : ∃ t, X.mg x = some (.str z t)) (hd : (x == ("__debug__" : Str)) = false := by decide) : SdE Γ X (.Name x pos) (mC (.str z)) := by
  obtain ⟨t, hm⟩ := hm
  exact sd_gstr hg hm hd
end

/-! ### sorting -/
section
variable {α : Type} (lt : α → α → Bool)
def insS (a : α) : List α → List α
  | [] => [a]
  | b :: r => if lt b a = true then b :: insS a r else a :: b :: r
def sortBy : List α → List α
  | [] => []
  | a :: r => insS lt a (sortBy r)
theorem insS_perm (a : α) : ∀ r : List α, (insS lt a r).Perm (a :: r)
  | [] => List.Perm.refl _
  | b :: r => by
    unfold insS
    split
    · exact ((insS_perm a r).cons b).trans (List.Perm.swap a b r)
    · exact List.Perm.refl _
theorem sortBy_perm : ∀ r : List α, (sortBy lt r).Perm r
  | [] => List.Perm.refl _
  | a :: r => (insS_perm lt a (sortBy lt r)).trans ((sortBy_perm r).cons a)
/-- a strict order of all -/
structure Strict : Prop where
  tr : ∀ a b c, lt a b = true → lt b c = true → lt a c = true
  ir : ∀ a, lt a a = false
  to : ∀ a b, lt a b = false → lt b a = false → a = b
variable {lt}
theorem Strict.as (h : Strict lt) {a b : α} (q : lt a b = true) : lt b a = false := by
  cases e : lt b a with
  | false => rfl
  | true => have := h.tr a b a q e; rw [h.ir] at this; cases this
def Asc (lt : α → α → Bool) (r : List α) : Prop := r.Pairwise fun a b => lt b a = false
theorem insS_asc (h : Strict lt) (a : α) : ∀ r : List α, Asc lt r → Asc lt (insS lt a r)
  | [], _ => by unfold insS; exact List.pairwise_singleton _ _
  | b :: r, q => by
    unfold insS
    have q' := List.pairwise_cons.mp q
    split
    · rename_i hb
      refine List.pairwise_cons.mpr ⟨fun x hx => ?_, insS_asc h a r q'.2⟩
      rcases List.mem_cons.mp ((insS_perm lt a r).mem_iff.mp hx) with z | z
      · subst z; exact h.as hb
      · exact q'.1 x z
    · rename_i hb
      have hb : lt b a = false := by cases e : lt b a with | false => rfl | true => exact absurd e hb
      refine List.pairwise_cons.mpr ⟨fun x hx => ?_, q⟩
      rcases List.mem_cons.mp hx with z | z
      · subst z; exact hb
      · have h1 := q'.1 x z
        cases e : lt x a with
        | false => rfl
        | true =>
          cases e2 : lt b x with
          | true => have := h.tr b x a e2 e; rw [hb] at this; cases this
          | false =>
            have := h.to b x e2 h1
            subst this
            rw [hb] at e
            cases e
theorem sortBy_asc (h : Strict lt) : ∀ r : List α, Asc lt (sortBy lt r)
  | [] => List.Pairwise.nil
  | a :: r => insS_asc h a _ (sortBy_asc h r)
theorem asc_unique (h : Strict lt) : ∀ {r s : List α}, r.Perm s → Asc lt r → Asc lt s → r = s
  | [], s, p, _, _ => by rw [List.nil_perm.mp p]
  | a :: r, [], p, _, _ => by have := p.length_eq; simp at this
  | a :: r, b :: s, p, ha, hb => by
    have ha' := List.pairwise_cons.mp ha
    have hb' := List.pairwise_cons.mp hb
    have eab : a = b := by
      rcases List.mem_cons.mp (p.mem_iff.mp List.mem_cons_self) with z | z
      · exact z
      · rcases List.mem_cons.mp (p.mem_iff.mpr List.mem_cons_self) with y | y
        · exact y.symm
        · exact h.to a b (hb'.1 a z) (ha'.1 b y)
    subst eab
    rw [asc_unique h (List.Perm.cons_inv p) ha'.2 hb'.2]
end
def ltI (a b : Int) : Bool := decide (a < b)
theorem strictI : Strict ltI := ⟨fun a b c h1 h2 => by unfold ltI at *; simp at *; omega, fun a => by unfold ltI; simp, fun a b h1 h2 => by unfold ltI at *; simp at *; omega⟩
theorem lt_list_trichotomy : ∀ (a b : List Nat), ¬ a < b → ¬ b < a → a = b
  | [], [], _, _ => rfl
  | [], b :: r, h, _ => absurd (List.nil_lt_cons b r) h
  | a :: r, [], _, h => absurd (List.nil_lt_cons a r) h
  | a :: r, b :: t, h1, h2 => by
    rw [List.cons_lt_cons_iff] at h1 h2
    have e : a = b := by omega
    subst e
    rw [lt_list_trichotomy r t (fun q => h1 (.inr ⟨rfl, q⟩)) (fun q => h2 (.inr ⟨rfl, q⟩))]
theorem ltCps_eq : ∀ (a b : List Nat), Spec.ltCps a b = decide (a < b)
  | [], [] => by simp [Spec.ltCps]
  | [], b :: r => by simp [Spec.ltCps]
  | a :: r, [] => by simp [Spec.ltCps]
  | a :: r, b :: t => by
    unfold Spec.ltCps
    rw [ltCps_eq r t]
    simp only [List.cons_lt_cons_iff]
    by_cases h1 : a < b <;> by_cases h2 : a = b <;> simp [h1, h2]
theorem strictS : Strict sLt := by
  refine ⟨fun a b c h1 h2 => ?_, fun a => ?_, fun a b h1 h2 => ?_⟩
  · unfold sLt at *
    exact decide_eq_true (List.lt_trans (of_decide_eq_true h1) (of_decide_eq_true h2))
  · unfold sLt
    exact decide_eq_false (List.lt_irrefl _)
  · unfold sLt at *
    have := lt_list_trichotomy _ _ (of_decide_eq_false h1) (of_decide_eq_false h2)
    cases a with
    | mk x =>
      cases b with
      | mk y =>
        have e : x = y := Array.toList_inj.mp this
        rw [e]
def sortI : List Int → List Int := sortBy ltI
def sortS : List Str → List Str := sortBy sLt
theorem sortI_of {ns ms : List Int} (p : ms.Perm ns) (q : ms.Pairwise (· ≤ ·)) : ms = sortI ns :=
  asc_unique strictI (p.trans (sortBy_perm ltI ns).symm) (q.imp fun h => by unfold ltI; simp; exact h) (sortBy_asc strictI ns)
theorem risingS_asc : ∀ (x : Str) (r : List Str), PyProof.Rows.risingS x r = true → Asc sLt (x :: r)
  | x, [], _ => List.pairwise_singleton _ _
  | x, y :: r, h => by
    unfold PyProof.Rows.risingS at h
    rw [Bool.and_eq_true] at h
    have q := risingS_asc y r h.2
    have q' := List.pairwise_cons.mp q
    have hy : sLt y x = false := by
      have := h.1
      rw [ltCps_eq] at this
      unfold sLt
      simpa using this
    refine List.pairwise_cons.mpr ⟨fun z hz => ?_, q⟩
    rcases List.mem_cons.mp hz with e | e
    · subst e; exact hy
    · have h1 := q'.1 z e
      cases e1 : sLt z x with
      | false => rfl
      | true =>
        cases e2 : sLt y z with
        | true => have := strictS.tr y z x e2 e1; rw [hy] at this; cases this
        | false =>
          have := strictS.to y z e2 h1
          subst this
          rw [hy] at e1
          cases e1
theorem sortS_of {ns ms : List Str} (p : ms.Perm ns) (q : PyProof.Rows.sortedS ms = true) : ms = sortS ns := by
  refine asc_unique strictS (p.trans (sortBy_perm sLt ns).symm) ?_ (sortBy_asc strictS ns)
  cases ms with
  | nil => exact List.Pairwise.nil
  | cons x r => exact risingS_asc x r q
def allInt : List D → Option (List Int)
  | [] => some []
  | .int s :: r => (allInt r).map (s :: ·)
  | _ => none
theorem allInt_ok {Γ : Gam} {M : Addr → Prop} {H : Hp} : ∀ {vs : List V} {ds : List D} {ys : List Int}, Dats Γ M H vs ds → allInt ds = some ys → vs = ys.map V.int
  | _, _, _, .nil, e => by cases e; rfl
  | _, _, _, .cons (d := d) (ds := ds) h r, e => by
    cases d with
    | int b =>
      unfold allInt at e
      cases g : allInt ds with
      | none => rw [g] at e; cases e
      | some es =>
        rw [g] at e
        cases e
        cases h
        rw [allInt_ok r g]
        rfl
    | _ => cases e
theorem ints_dats {Γ : Gam} {M : Addr → Prop} {H : Hp} (ns : List Int) : Dats Γ M H (ns.map V.int) (ns.map D.int) := dats_ints ns
def pSorted {Γ : Gam} (x : Sl Γ) : Option (Sl Γ) :=
  match x.view with
  | some (.lst ds) => match allInt ds with
    | some ns => some (.lst ((sortI ns).map .int))
    | none => match allStr ds with
      | some ss => if ss.length < 64 then some (.lst ((sortS ss).map .str)) else none
      | none => none
  | _ => none
theorem b_sorted {Γ : Gam} {X : Cx} : Blt Γ X (.builtin "sorted") (pN1 pSorted) := by
  refine ⟨_, fun g => CallR.imp (CallR.or cr_sortedI cr_sortedS) fun xs H Q h => ?_, pN1_ok (r := fun x H Q => (∃ (a : Addr) (ns : List Int), x = V.ref a ∧ SqL Γ.K H a (ns.map V.int) ∧ ∀ (ns' : List Int) (p : Addr), ns'.Perm ns → ns'.Pairwise (· ≤ ·) → H p = none → Q (.ref p) (upd H p (.lst (ns'.map V.int)))) ∨
    ∃ (a : Addr) (xs : List Str), x = V.ref a ∧ SqL Γ.K H a (xs.map V.str) ∧ xs.length < 64 ∧ ∀ (ys : List Str) (p : Addr), ys.Perm xs → PyProof.Rows.sortedS ys = true → H p = none → Q (.ref p) (upd H p (.lst (ys.map V.str)))) ?_⟩
  · obtain ⟨x, e, h⟩ := h
    rcases h with ⟨a, ns, h1, h2, h3⟩ | ⟨a, ns, h1, h2, h3, h4⟩
    · subst h1; exact .inl ⟨a, ns, e, by rw [← g.k]; exact h2, h3⟩
    · subst h1; exact .inr ⟨a, ns, e, by rw [← g.k]; exact h2, h3, h4⟩
  · intro M H x sx s Gx Q dom hp hx k
    unfold pSorted at hp
    split at hp
    · rename_i ds g1
      obtain ⟨p, vs, rfl, hq, r⟩ := hx.list g1
      split at hp
      · rename_i ns g2
        cases hp
        have ev := allInt_ok r g2
        subst ev
        refine .inl ⟨p, ns, rfl, hq, fun ns' p' h1 h2 h3 => ?_⟩
        rw [sortI_of h1 h2]
        exact k.lst (dats_ints _) h3
      · split at hp
        · rename_i ss g2
          split at hp
          · rename_i hl
            cases hp
            have ev := allStr_ok r g2
            subst ev
            refine .inr ⟨p, ss, rfl, hq, hl, fun ns' p' h1 h2 h3 => ?_⟩
            rw [sortS_of h1 h2]
            exact k.lst (strs_dats _) h3
          · cases hp
        · cases hp
    · cases hp
end G

/-! G15: places (a slot, an attribute of an instance in a slot), operands that change nothing, dicts -/
namespace G
open PySem L2

inductive Pl where
  | sl (i : Nat) | fl (i : Nat) (f : Str)
inductive QE where
  | pl (p : Pl) | cst (d : D)
def Fd.sl {Γ : Gam} : Fd → Sl Γ
  | .dat d => .dat d
  | .lst ds => .lst ds
  | .dic kvs => .dic kvs
def Gam.has (Γ : Gam) (c : Nat) (f : Str) : Bool := match Γ.cls c with | some (_, ns) => ns.contains f | none => false
def getP {Γ : Gam} : Pl → Env Γ → Option (Sl Γ)
  | .sl i, env => got env[i]?
  | .fl i f, env => match env[i]? with
    | some (.ins c fs) => if Γ.has c f = true then (fs.lookup f).map Fd.sl else none
    | some (.dat (.ins c ds)) => match Γ.cls c with
      | some (_, ns) => ((ns.zip ds).lookup f).map .dat
      | none => none
    | _ => none
def evQ {Γ : Gam} : QE → Env Γ → Option (Sl Γ)
  | .pl p, env => getP p env
  | .cst d, _ => some (.dat d)
/-- the place p holds v -/
def PR (w : Wd) (σ : St) (v : V) : Pl → Prop
  | .sl i => σ[i]? = some (some v)
  | .fl i f => ∃ a C dx fsV, σ[i]? = some (some (.ref a)) ∧ w.H a = some (.ins C dx fsV) ∧ fsV.lookup f = some v
def QV (w : Wd) (σ : St) (v : V) : QE → Prop
  | .pl p => PR w σ v p
  | .cst _ => True
/-- an expression that changes nothing -/
def SdQ (Γ : Gam) (X : Cx) (e : Expr) (q : QE) : Prop := Gd Γ X → ∀ (σ : St) (env : Env Γ) (s : Sl Γ) (w : Wd) (Q : VK), evQ q env = some s → ER Γ w σ env → (∀ v G, SR Γ w.M w.H v s G → QV w σ v q → Q v w.H) → wE X e σ w.H Q
section
variable {Γ : Gam} {X : Cx} {A : List Nat} {σ : St} {env env' : Env Γ} {w : Wd} {e a b c : Expr} {pos : Pos} {q q1 q2 q3 : QE}
theorem FdR.sr {M : Addr → Prop} {H : Hp} {v : V} {x : Fd} {G : Addr → Prop} (h : FdR Γ M H v x G) : SR Γ M H v x.sl G := by
  cases x with
  | dat d => exact h
  | lst ds => exact h
  | dic kvs => exact h
theorem FdRs.look {M : Addr → Prop} {H : Hp} {f : Str} {x : Fd} : ∀ {vs : List (Str × V)} {fs : List (Str × Fd)} {G : Addr → Prop}, FdRs Γ M H vs fs G → fs.lookup f = some x → ∃ v G1, vs.lookup f = some v ∧ FdR Γ M H v x G1 ∧ ∀ a, G1 a → G a
  | _, _, _, .nil _, e => by cases e
  | _, _, _, .cons (n := n) h r d eq, e => by
    rw [List.lookup_cons] at e ⊢
    by_cases hn : (f == n) = true
    · rw [hn] at e ⊢
      cases e
      exact ⟨_, _, rfl, h, fun a z => (eq a).mpr (.inl z)⟩
    · have hn' : (f == n) = false := by cases q : (f == n) with | false => rfl | true => exact absurd q hn
      rw [hn'] at e ⊢
      obtain ⟨v, G1, e1, h1, h2⟩ := FdRs.look r e
      exact ⟨v, G1, e1, h1, fun a z => (eq a).mpr (.inr (h2 a z))⟩
theorem zip_look {M : Addr → Prop} {H : Hp} {f : Str} {d : D} : ∀ {ns : List Str} {vs : List V} {ds : List D}, Dats Γ M H vs ds → (ns.zip ds).lookup f = some d → ∃ v, (ns.zip vs).lookup f = some v ∧ Dat Γ M H v d
  | [], vs, ds, r, e => by cases e
  | n :: ns, _, _, .nil, e => by cases e
  | n :: ns, _, _, .cons h r, e => by
    rw [List.zip_cons_cons, List.lookup_cons] at e
    rw [List.zip_cons_cons, List.lookup_cons]
    cases hn : (f == n) with
    | true => rw [hn] at e; cases e; exact ⟨_, rfl, h⟩
    | false => rw [hn] at e; exact zip_look r e
theorem lookup_mem {α : Type} {f : Str} {x : α} : ∀ {ns : List Str} {xs : List α}, (ns.zip xs).lookup f = some x → ns.contains f = true
  | [], xs, e => by cases e
  | n :: ns, [], e => by cases e
  | n :: ns, y :: xs, e => by
    rw [List.zip_cons_cons, List.lookup_cons] at e
    cases hn : (f == n) with
    | true => rw [List.contains_cons, hn]; rfl
    | false => rw [hn] at e; rw [List.contains_cons, hn, Bool.false_or]; exact lookup_mem e
/-- the instance that slot i holds, its attribute f -/
theorem ER.fld (E : ER Γ w σ env) {i : Nat} {f : Str} {s : Sl Γ} (h : getP (.fl i f) env = some s) : ∃ a c C ns dx fsV v G, Γ.cls c = some (C, ns) ∧ ns.contains f = true ∧ σ[i]? = some (some (.ref a)) ∧ w.H a = some (.ins C dx fsV) ∧ fsV.lookup f = some v ∧ SR Γ w.M w.H v s G := by
  simp only [getP] at h
  split at h
  · rename_i c fs g
    split at h
    · rename_i hc
      cases g2 : fs.lookup f with
      | none => rw [g2] at h; cases h
      | some x =>
        rw [g2] at h
        cases h
        obtain ⟨v, ev, a, C, ns, dx, vs, G, rfl, hC, ha, r, _, _⟩ := E.at (i := i) (s := .ins c fs) (by rw [g]; rfl)
        obtain ⟨u, G1, e1, h1, _⟩ := r.look g2
        unfold Gam.has at hc
        rw [hC] at hc
        exact ⟨a, c, C, ns, dx, vs, u, G1, hC, hc, ev, ha, e1, h1.sr⟩
    · cases h
  · rename_i c ds g
    split at h
    · rename_i C ns hC
      cases g2 : (ns.zip ds).lookup f with
      | none => rw [g2] at h; cases h
      | some d =>
        rw [g2] at h
        cases h
        obtain ⟨v, ev, rv, _⟩ := E.at (i := i) (s := .dat (.ins c ds)) (by rw [g]; rfl)
        cases rv with
        | @ins a C' dx _ ns' vs _ e1 n ha hl r =>
          rw [hC] at e1
          cases e1
          obtain ⟨u, eu, hu⟩ := zip_look r g2
          exact ⟨a, c, C, ns, dx, _, u, fun _ => False, hC, lookup_mem g2, ev, ha, eu, hu, fun _ z => z⟩
    · cases h
  · cases h
theorem sdq_var (i : Nat) {x : Str} (hN : X.N[i]? = some x := by rfl) (hv : Vis X.env.scope x := by first | exact Or.inl rfl | exact Or.inr (Or.inl rfl) | exact Or.inr (Or.inr rfl)) (hd : (x == ("__debug__" : Str)) = false := by decide) (hcd : (x == ("__classdict__" : Str)) = false := by decide) :
    SdQ Γ X (.Name x pos) (.pl (.sl i)) := by
  intro hK σ env s w Q he E k
  obtain ⟨v, ev, rv⟩ := E.at (show got env[i]? = some s from he)
  exact wE.of (pe_var hN hv hd hcd) ⟨v, ev, k v _ rv ev⟩
/-- every class of ours that has the attribute has it in its instances alone -/
def FldOk (Γ : Gam) (f : Str) : Prop := ∀ c C ns, Γ.cls c = some (C, ns) → ns.contains f = true → Cls Γ.K C ∧ NoAttr Γ.K C f
theorem sdq_fld (i : Nat) {x f : Str} {npos : Pos} (hF : FldOk Γ f) (hN : X.N[i]? = some x := by rfl) (hv : Vis X.env.scope x := by first | exact Or.inl rfl | exact Or.inr (Or.inl rfl) | exact Or.inr (Or.inr rfl)) (hd : (x == ("__debug__" : Str)) = false := by decide) (hcd : (x == ("__classdict__" : Str)) = false := by decide)
    (hbase : attributeBase (.Name x npos) f X.env (eval (.Name x npos) X.env) = eval (.Name x npos) X.env := by rfl) : SdQ Γ X (.Attribute (.Name x npos) f pos) (.pl (.fl i f)) := by
  intro hK σ env s w Q he E k
  obtain ⟨a, c, C, ns, dx, fsV, v, G, hC, hc, ev, ha, el, rv⟩ := E.fld (show getP (.fl i f) env = some s from he)
  obtain ⟨c1, c2⟩ := hF c C ns hC hc
  exact wE.of (pe_fld (pe_var hN hv hd hcd) hbase) ⟨_, ev, a, C, dx, fsV, v, rfl, ha, hK.k ▸ c1, hK.k ▸ c2, el, k v G rv ⟨a, C, dx, fsV, ev, ha, el⟩⟩
theorem sdq_c {v : V} {d : D} (h : PE X e (tC v)) (hd : ∀ M H, Dat Γ M H v d) : SdQ Γ X e (.cst d) := by
  intro hK σ env s w Q he E k
  cases he
  exact wE.of h (k v (fun _ => False) ⟨hd _ _, fun _ z => z⟩ trivial)
theorem sdq_int {i j} : SdQ Γ X (.Constant (.int i) j pos) (.cst (.int i)) := sdq_c pe_int fun _ _ => .int _
theorem sdq_bl {b j} : SdQ Γ X (.Constant (.bool b) j pos) (.cst (.bl b)) := sdq_c pe_bl fun _ _ => .bl _
theorem sdq_non {j} : SdQ Γ X (.Constant .none j pos) (.cst .non) := sdq_c pe_non fun _ _ => .non
theorem sdq_str {x j} : SdQ Γ X (.Constant (.str x) j pos) (.cst (.str x)) := sdq_c pe_str fun _ _ => .str _
/-- a quiet expression's data as a value -/
def mQ {Γ : Gam} (q : QE) : Ev Γ := fun env =>
  match evQ q env with
  | some (.dat d) => some (.dat d, env)
  | _ => none
theorem sd_q (h : SdQ Γ X e q) : SdE Γ X e (mQ q) := by
  intro hK σ env r env' w Q he E k
  unfold mQ at he
  split at he
  · rename_i d g
    cases he
    exact h hK σ env _ w Q g E fun v G rv _ => k v w (fun _ => False) E ⟨⟨rv.1, fun _ z => z⟩, fun _ z => z.elim, fun _ _ z => z.elim⟩ (Step.refl w) fun _ z => z.elim
  · cases he
/-- one, two quiet operands -/
def mQ1 {Γ : Gam} (p : Sl Γ → Option (Sl Γ)) (q : QE) : Ev Γ := fun env =>
  match evQ q env with
  | none => none
  | some s => (p s).map fun r => (r, env)
def mQ2 {Γ : Gam} (p : Sl Γ → Sl Γ → Option (Sl Γ)) (q1 q2 : QE) : Ev Γ := fun env =>
  match evQ q1 env, evQ q2 env with
  | some s, some t => (p s t).map fun r => (r, env)
  | _, _ => none
theorem runQ1 {r : V → Hp → VK → Prop} {p : Sl Γ → Option (Sl Γ)} {s : Sl Γ} {Q : VK} (hp : Prim1 Γ r p) (ha : SdQ Γ X a q) (hK : Gd Γ X) (he : mQ1 p q env = some (s, env')) (E : ER Γ w σ env)
    (k : ∀ v w' Fr, ER Γ w' σ env' → TR Γ w' v s Fr → Step w w' → Fresh w Fr → Q v w'.H) : wE X a σ w.H fun x H1 => r x H1 Q := by
  unfold mQ1 at he
  split at he
  · cases he
  · rename_i s1 g1
    cases g2 : p s1 with
    | none => rw [g2] at he; cases he
    | some r1 =>
      rw [g2] at he
      cases he
      exact ha hK σ env _ w _ g1 E fun v G rv _ => hp w.M w.H v s1 s G Q E.dom g2 rv (res_of E k)
theorem runQ2 {r : R2} {p : Sl Γ → Sl Γ → Option (Sl Γ)} {s : Sl Γ} {Q : VK} (hp : Prim2 Γ r p) (ha : SdQ Γ X a q1) (hb : SdQ Γ X b q2) (hK : Gd Γ X) (he : mQ2 p q1 q2 env = some (s, env')) (E : ER Γ w σ env)
    (k : ∀ v w' Fr, ER Γ w' σ env' → TR Γ w' v s Fr → Step w w' → Fresh w Fr → Q v w'.H) : wE X a σ w.H fun x H1 => wE X b σ H1 fun y H2 => r x y H2 Q := by
  unfold mQ2 at he
  split at he
  · rename_i s1 s2 g1 g2
    cases g3 : p s1 s2 with
    | none => rw [g3] at he; cases he
    | some r1 =>
      rw [g3] at he
      cases he
      exact ha hK σ env _ w _ g1 E fun v G rv _ => hb hK σ env _ w _ g2 E fun u G2 ru _ => hp w.M w.H v u s1 s2 s G G2 Q E.dom g3 rv ru (res_of E k)
  · cases he

/-! ### dicts: keys are ints and texts -/
def keyOf : D → Option Key
  | .int i => some (.inl i)
  | .str s => some (.inr s)
  | _ => none
def lookD (kvs : List (Key × D)) (k : Key) : Option D := (kvs.find? fun kv => decide (kv.1 = k)).map (·.2)
def putD (kvs : List (Key × D)) (k : Key) (v : D) : List (Key × D) :=
  if (kvs.any fun kv => decide (kv.1 = k)) = true then kvs.map (fun kv => if kv.1 = k then (kv.1, v) else kv) else kvs ++ [(k, v)]
theorem keyOf_dat {M : Addr → Prop} {H : Hp} {v : V} {d : D} {k : Key} (h : Dat Γ M H v d) (e : keyOf d = some k) : v = kV k := by
  cases h <;> cases e <;> rfl
theorem KDats.look {M : Addr → Prop} {H : Hp} {k : Key} : ∀ {vs : List (Key × V)} {kvs : List (Key × D)}, KDats Γ M H vs kvs → (lookD kvs k = none ∧ valV vs k = none) ∨ ∃ d v, lookD kvs k = some d ∧ valV vs k = some v ∧ Dat Γ M H v d
  | _, _, .nil => .inl ⟨rfl, rfl⟩
  | _, _, .cons (k := n) (v := v) (d := d) h r => by
    by_cases e : n = k
    · exact .inr ⟨d, v, by simp [lookD, List.find?_cons, e], by rw [valV_pos e], h⟩
    · rcases KDats.look (k := k) r with ⟨h1, h2⟩ | ⟨d', v', h1, h2, h3⟩
      · exact .inl ⟨by rw [← h1]; simp [lookD, List.find?_cons, e], by rw [valV_neg e, h2]⟩
      · exact .inr ⟨d', v', by rw [← h1]; simp [lookD, List.find?_cons, e], by rw [valV_neg e, h2], h3⟩
theorem KDats.length {M : Addr → Prop} {H : Hp} : ∀ {vs : List (Key × V)} {kvs : List (Key × D)}, KDats Γ M H vs kvs → vs.length = kvs.length
  | _, _, .nil => rfl
  | _, _, .cons h r => by rw [List.length_cons, List.length_cons, KDats.length r]
theorem KDats.keys {M : Addr → Prop} {H : Hp} : ∀ {vs : List (Key × V)} {kvs : List (Key × D)}, KDats Γ M H vs kvs → vs.map (·.1) = kvs.map (·.1)
  | _, _, .nil => rfl
  | _, _, .cons h r => by rw [List.map_cons, List.map_cons, KDats.keys r]
theorem KDats.snoc {M : Addr → Prop} {H : Hp} {k : Key} {v : V} {d : D} (h : Dat Γ M H v d) : ∀ {vs : List (Key × V)} {kvs : List (Key × D)}, KDats Γ M H vs kvs → KDats Γ M H (vs ++ [(k, v)]) (kvs ++ [(k, d)])
  | _, _, .nil => .cons h .nil
  | _, _, .cons q r => .cons q (KDats.snoc h r)
theorem KDats.setAll {M : Addr → Prop} {H : Hp} {k : Key} {v : V} {d : D} (h : Dat Γ M H v d) : ∀ {vs : List (Key × V)} {kvs : List (Key × D)}, KDats Γ M H vs kvs → KDats Γ M H (vs.map fun kv => if kv.1 = k then (kv.1, v) else kv) (kvs.map fun kv => if kv.1 = k then (kv.1, d) else kv)
  | _, _, .nil => .nil
  | _, _, .cons (k := n) q r => by
    rw [List.map_cons, List.map_cons]
    by_cases e : n = k
    · simp only [e, if_true]; exact .cons h (KDats.setAll h r)
    · simp only [e, if_false]; exact .cons q (KDats.setAll h r)
theorem KDats.any {M : Addr → Prop} {H : Hp} {k : Key} : ∀ {vs : List (Key × V)} {kvs : List (Key × D)}, KDats Γ M H vs kvs → (vs.any fun kv => decide (kv.1 = k)) = kvs.any fun kv => decide (kv.1 = k)
  | _, _, .nil => rfl
  | _, _, .cons q r => by rw [List.any_cons, List.any_cons, KDats.any r]
theorem KDats.put {M : Addr → Prop} {H : Hp} {k : Key} {v : V} {d : D} (h : Dat Γ M H v d) {vs : List (Key × V)} {kvs : List (Key × D)} (r : KDats Γ M H vs kvs) : KDats Γ M H (putK vs k v) (putD kvs k d) := by
  unfold putK putD
  rw [r.any]
  split
  · exact r.setAll h
  · exact r.snoc h
theorem SR.dic {M : Addr → Prop} {H : Hp} {v : V} {G : Addr → Prop} {kvs : List (Key × D)} (h : SR Γ M H v (.dic kvs) G) : ∃ p vs, v = .ref p ∧ H p = some (.dK vs) ∧ KDats Γ M H vs kvs := by
  obtain ⟨p, vs, e, hp, r, _⟩ := h
  exact ⟨p, vs, e, hp, r⟩
def pDGet {Γ : Gam} (x y : Sl Γ) : Option (Sl Γ) :=
  match x, y with
  | .dic kvs, .dat kd => match keyOf kd with
    | some k => (lookD kvs k).map .dat
    | none => none
  | _, _ => none
theorem pDGet_ok : Prim2 Γ (fun x y H Q => ∃ a v, x = .ref a ∧ DGet H a y (some v) ∧ Q v H) (pDGet (Γ := Γ)) := by
  intro M H x y sx sy s Gx Gy Q dom hp hx hy k
  unfold pDGet at hp
  split at hp
  · rename_i kvs kd
    split at hp
    · rename_i kk g
      obtain ⟨p, vs, rfl, hp', r⟩ := hx.dic
      rcases r.look (k := kk) with ⟨h1, _⟩ | ⟨d, v, h1, h2, h3⟩
      · rw [h1] at hp; cases hp
      · rw [h1] at hp
        cases hp
        refine ⟨p, v, rfl, ?_, k.dat h3⟩
        rw [keyOf_dat hy.1 g, ← h2]
        exact DGet.k hp'
    · cases hp
  · cases hp
def pDInG {Γ : Gam} (f : Bool → Bool) (x y : Sl Γ) : Option (Sl Γ) :=
  match x, y with
  | .dat kd, .dic kvs => match keyOf kd with
    | some k => some (db (f (lookD kvs k).isSome))
    | none => none
  | _, _ => none
theorem pDInG_ok {f : Bool → Bool} : Prim2 Γ (fun y x H Q => ∃ a o, x = .ref a ∧ DGet H a y o ∧ Q (.bl (f o.isSome)) H) (pDInG (Γ := Γ) f) := by
  intro M H x y sx sy s Gx Gy Q dom hp hx hy k
  unfold pDInG at hp
  split at hp
  · rename_i kd kvs
    split at hp
    · rename_i kk g
      cases hp
      obtain ⟨p, vs, rfl, hp', r⟩ := hy.dic
      refine ⟨p, valV vs kk, rfl, by rw [keyOf_dat hx.1 g]; exact DGet.k hp', ?_⟩
      rcases r.look (k := kk) with ⟨h1, h2⟩ | ⟨d, v, h1, h2, h3⟩
      · rw [h1] at k; rw [h2]; exact k.dat (.bl _)
      · rw [h1] at k; rw [h2]; exact k.dat (.bl _)
    · cases hp
  · cases hp
def pDIn {Γ : Gam} : Sl Γ → Sl Γ → Option (Sl Γ) := pDInG id
def pDNotIn {Γ : Gam} : Sl Γ → Sl Γ → Option (Sl Γ) := pDInG not
theorem Gd.hu (g : Gd Γ X) : X.A.units + 1 < cLine := Nat.lt_of_le_of_lt (Nat.add_le_add_left (by decide) _) g.un
theorem sd_dget (ha : SdQ Γ X a q1) (hb : SdQ Γ X b q2) (hs : NoSl b := by exact fun _ _ => rfl) : SdE Γ X (.Subscript a b pos) (mQ2 pDGet q1 q2) :=
  fun hK σ env r env' w Q he E k => wE.of (pe_dget hK.hu pe_wE pe_wE hs) (runQ2 pDGet_ok ha hb hK he E k)
theorem sd_din (ha : SdQ Γ X a q1) (hb : SdQ Γ X b q2) (hm : behindInMarks .In b = false := by rfl) : SdE Γ X (.Compare a [.In] [b] pos) (mQ2 pDIn q1 q2) :=
  fun hK σ env r env' w Q he E k => wE.of (pe_cmp (pc_din hK.hu pe_wE pe_wE) hm) (runQ2 pDInG_ok ha hb hK he E k)
theorem sd_dni (ha : SdQ Γ X a q1) (hb : SdQ Γ X b q2) (hm : behindInMarks .NotIn b = false := by rfl) : SdE Γ X (.Compare a [.NotIn] [b] pos) (mQ2 pDNotIn q1 q2) :=
  fun hK σ env r env' w Q he E k => wE.of (pe_cmp (pc_dnotin hK.hu pe_wE pe_wE) hm) (runQ2 pDInG_ok ha hb hK he E k)
theorem sdt_din (ha : SdQ Γ X a q1) (hb : SdQ Γ X b q2) (hm : behindInMarks .In b = false := by rfl) : SdT Γ X (.Compare a [.In] [b] pos) (toT (mQ2 pDIn q1 q2)) :=
  fun hK σ env r env' w Q he E k => wT.of (pt_cmp (pc_din hK.hu pe_wE pe_wE) hm) (runQ2 (Q := fun x H1 => ∃ c, x = V.bl c ∧ Q c H1) pDInG_ok ha hb hK (toT_some he) E fun v w' Fr E' T p' f => ⟨r, T.bl, k w' E' p'⟩)
theorem sdt_dni (ha : SdQ Γ X a q1) (hb : SdQ Γ X b q2) (hm : behindInMarks .NotIn b = false := by rfl) : SdT Γ X (.Compare a [.NotIn] [b] pos) (toT (mQ2 pDNotIn q1 q2)) :=
  fun hK σ env r env' w Q he E k => wT.of (pt_cmp (pc_dnotin hK.hu pe_wE pe_wE) hm) (runQ2 (Q := fun x H1 => ∃ c, x = V.bl c ∧ Q c H1) pDInG_ok ha hb hK (toT_some he) E fun v w' Fr E' T p' f => ⟨r, T.bl, k w' E' p'⟩)
/-- {} -/
def mDNew {Γ : Gam} : Ev Γ := fun env => some (.dic [], env)
theorem sd_dnew : SdE Γ X (.Dict [] [] pos) mDNew := by
  intro hK σ env r env' w Q he E k
  cases he
  refine wE.of pe_dnewK fun p hp => ?_
  refine res_of E k (.ref p) _ (fun a => a = p) (upd_keep hp) (fun a z => by subst z; exact ⟨hp, by rw [upd_same]; simp⟩) ⟨p, [], rfl, upd_same, .nil, fun a => Iff.rfl⟩
end
end G

/-! G16: dicts and attributes that are changed -/
namespace G
open PySem L2

def putFd (f : Str) (x : Fd) : List (Str × Fd) → List (Str × Fd)
  | [] => [(f, x)]
  | (n, y) :: r => if n = f then (n, x) :: r else (n, y) :: putFd f x r
def setD {Γ : Gam} (kvs : List (Key × D)) : Pl → Env Γ → Option (Env Γ)
  | .sl i, env => some (env.set i (.dic kvs))
  | .fl i f, env => match env[i]? with
    | some (.ins c fs) => some (env.set i (.ins c (putFd f (.dic kvs) fs)))
    | _ => none
section
variable {Γ : Gam} {X : Cx} {A : List Nat} {σ : St} {env env' : Env Γ} {w : Wd} {e a b c : Expr} {pos : Pos} {q q1 q2 q3 : QE}
/-- what slot i owns is changed -/
theorem ER.chg (E : ER Γ w σ env) {i : Nat} {v : V} {s' : Sl Γ} {Fi : Addr → Prop} {H' : Hp} (hv : σ[i]? = some (some v)) (keep : ∀ a u, ¬ w.F i a → w.H a = some u → H' a = some u) (live : ∀ a, w.H a ≠ none → H' a ≠ none)
    (hF : ∀ a, Fi a → w.M a ∧ ∀ j, j ≠ i → ¬ w.F j a) (r : SR Γ w.M H' v s' Fi) : ER Γ ⟨w.M, fun j a => if j = i then Fi a else w.F j a, H'⟩ σ (env.set i s') := by
  have il : i < env.length := by rw [E.len]; exact (List.getElem?_eq_some_iff.mp hv).1
  have g : Go w.M w.H w.M H' := ⟨fun a u n e => keep a u (fun z => n (E.sub i a z)) e, fun _ n _ => n⟩
  refine ⟨by rw [List.length_set]; exact E.len, fun j s hj => ?_, fun j a f => ?_, fun j k a f f' => ?_, fun a m => live a (E.dom a m), fun j hj a f => ?_⟩
  · by_cases e : j = i
    · subst e
      rw [List.getElem?_set_self il] at hj
      cases hj
      have ef : (fun a => if j = j then Fi a else w.F j a) = Fi := by funext a; rw [if_pos rfl]
      refine .inr ⟨v, hv, ?_⟩
      show SR Γ w.M H' v s' (fun a => if j = j then Fi a else w.F j a)
      rw [ef]
      exact r
    · rw [List.getElem?_set_ne (Ne.symm e)] at hj
      have ef : (fun a => if j = i then Fi a else w.F j a) = w.F j := by funext a; rw [if_neg e]
      rcases E.slot j s hj with ⟨z1, z2⟩ | ⟨u, eu, ru⟩
      · refine .inl ⟨z1, fun a f => ?_⟩
        have f' : (if j = i then Fi a else w.F j a) := f
        rw [if_neg e] at f'
        exact z2 a f'
      · refine .inr ⟨u, eu, ?_⟩
        show SR Γ w.M H' u s (fun a => if j = i then Fi a else w.F j a)
        rw [ef]
        exact ru.go g fun a o f q => keep a o (fun z => e (E.dis j i a f z)) q
  · have f' : (if j = i then Fi a else w.F j a) := f
    split at f'
    · exact (hF a f').1
    · exact E.sub j a f'
  · have g1 : (if j = i then Fi a else w.F j a) := f
    have g2 : (if k = i then Fi a else w.F k a) := f'
    split at g1
    · rename_i e1
      split at g2
      · rename_i e2; rw [e1, e2]
      · rename_i e2; exact absurd g2 ((hF a g1).2 k e2)
    · rename_i e1
      split at g2
      · exact absurd g1 ((hF a g2).2 j e1)
      · exact E.dis j k a g1 g2
  · have g1 : (if j = i then Fi a else w.F j a) := f
    rw [List.length_set] at hj
    split at g1
    · omega
    · exact E.out j hj a g1
theorem FdRs.keep {M : Addr → Prop} {H H' : Hp} {p : Addr} (mp : M p) : ∀ {vs : List (Str × V)} {fs : List (Str × Fd)} {G : Addr → Prop}, FdRs Γ M H vs fs G → ¬ G p → (∀ b, b ≠ p → H' b = H b) → FdRs Γ M H' vs fs G
  | _, _, _, .nil h, _, _ => .nil h
  | _, _, _, .cons h r d eq, n, k => by
    have g : Go M H M H' := ⟨fun b u nb e => by rw [k b (fun z => nb (z ▸ mp))]; exact e, fun _ nb _ => nb⟩
    exact .cons (h.go g fun b u z e => by rw [k b (fun z' => n ((eq p).mpr (.inl (z' ▸ z))))]; exact e) (FdRs.keep mp r (fun z => n ((eq p).mpr (.inr z))) k) d eq
/-- the dict of an attribute is written -/
theorem FdRs.putDic {M : Addr → Prop} {H : Hp} {f : Str} {kvs kvs' : List (Key × D)} {p : Addr} {vs' : List (Key × V)} (mp : M p) (r' : KDats Γ M H vs' kvs') : ∀ {vs : List (Str × V)} {fs : List (Str × Fd)} {G : Addr → Prop}, FdRs Γ M H vs fs G → fs.lookup f = some (.dic kvs) → vs.lookup f = some (.ref p) →
    G p ∧ FdRs Γ M (upd H p (.dK vs')) vs (putFd f (.dic kvs') fs) G
  | _, _, _, .nil _, e, _ => by cases e
  | _, _, _, .cons (n := n) (v := v) (x := x) (xs := xs) h r d eq, e1, e2 => by
    rw [List.lookup_cons] at e1 e2
    have go : Go M H M (upd H p (.dK vs')) := ⟨fun b u nb e => by rw [upd_ne (fun (z : b = p) => nb (z ▸ mp))]; exact e, fun _ nb _ => nb⟩
    cases hn : (f == n) with
    | true =>
      rw [hn] at e1 e2
      cases e1
      cases e2
      have en : n = f := (beq_iff_eq.mp hn).symm
      obtain ⟨q, us, eq1, hq, ru, nG⟩ := h
      cases eq1
      refine ⟨(eq p).mpr (.inl ((nG p).mpr rfl)), ?_⟩
      unfold putFd
      rw [if_pos en]
      exact .cons ⟨p, vs', rfl, upd_same, r'.go go, nG⟩ (r.keep mp (fun z => d p ((nG p).mpr rfl) z) fun b nb => upd_ne nb) d eq
    | false =>
      rw [hn] at e1 e2
      have en : ¬ n = f := fun z => by rw [z] at hn; simp at hn
      obtain ⟨gp, rr⟩ := FdRs.putDic mp r' r e1 e2
      refine ⟨(eq p).mpr (.inr gp), ?_⟩
      unfold putFd
      rw [if_neg en]
      refine .cons (h.go go fun b u z e => ?_) rr d eq
      rw [upd_ne (fun (zz : b = p) => d b z (zz ▸ gp))]
      exact e
theorem ER.putDic (E : ER Γ w σ env) {pl : Pl} {kvs kvs' : List (Key × D)} {p : Addr} {vs' : List (Key × V)} {env2 : Env Γ} (h : getP pl env = some (.dic kvs)) (hp : PR w σ (.ref p) pl) (r : KDats Γ w.M w.H vs' kvs') (hs : setD kvs' pl env = some env2) :
    ∃ w', w'.H = upd w.H p (.dK vs') ∧ ER Γ w' σ env2 ∧ Step w w' := by
  cases pl with
  | sl i =>
    cases hs
    obtain ⟨v, ev, q, us, rfl, hq, ru, n⟩ := E.at (show got env[i]? = some (.dic kvs) from h)
    have hp' : σ[i]? = some (some (.ref p)) := hp
    have eqp : q = p := by rw [ev] at hp'; cases hp'; rfl
    subst eqp
    have mp : w.M q := E.sub i q ((n q).mpr rfl)
    have g : Go w.M w.H w.M (upd w.H q (.dK vs')) := ⟨fun b u nb e => by rw [upd_ne (fun (z : b = q) => nb (z ▸ mp))]; exact e, fun _ nb _ => nb⟩
    have lv : ∀ b, w.H b ≠ none → upd w.H q (.dK vs') b ≠ none := fun b hb => by
      by_cases z : b = q
      · rw [z, upd_same]; simp
      · rw [upd_ne z]; exact hb
    refine ⟨⟨w.M, fun j a => if j = i then w.F i a else w.F j a, upd w.H q (.dK vs')⟩, rfl, E.chg (s' := .dic kvs') (Fi := w.F i) ev (fun b u nb e => by rw [upd_ne (fun (z : b = q) => nb ((n b).mpr z))]; exact e) lv (fun a f => ⟨E.sub i a f, fun j hj z => hj (E.dis j i a z f)⟩) ⟨q, vs', rfl, upd_same, r.go g, n⟩,
      ⟨fun b u nb e => ?_, fun _ _ m => m, fun _ m => .inl m, fun j b f => ?_, lv⟩⟩
    · show upd w.H q (.dK vs') b = some u
      rw [upd_ne (fun (z : b = q) => nb i ((n b).mpr z))]
      exact e
    · have f' : (if j = i then w.F i b else w.F j b) := f
      split at f'
      · exact .inl ⟨i, f'⟩
      · exact .inl ⟨j, f'⟩
  | fl i f =>
    simp only [setD] at hs
    split at hs
    · rename_i c fs g0
      cases hs
      simp only [getP, g0] at h
      split at h
      · cases g2 : fs.lookup f with
        | none => rw [g2] at h; cases h
        | some x =>
          rw [g2] at h
          have ex : x = .dic kvs := by
            cases x with
            | dat d => cases h
            | lst ds => cases h
            | dic k => cases h; rfl
          subst ex
          obtain ⟨v, ev, a, C, ns, dx, vs, G, rfl, hC, ha, rs, nG, hFr⟩ := E.at (i := i) (s := .ins c fs) (by rw [g0]; rfl)
          obtain ⟨a', C', dx', fsV, ev', ha', el⟩ := hp
          have ea : a = a' := by rw [ev] at ev'; cases ev'; rfl
          subst ea
          rw [ha] at ha'
          cases ha'
          obtain ⟨u, G1, e1, h1, h2⟩ := rs.look g2
          rw [el] at e1
          cases e1
          obtain ⟨q, us, eq1, hq, ru, nq⟩ := h1
          cases eq1
          have fp : w.F i p := (hFr p).mpr (.inr (h2 p ((nq p).mpr rfl)))
          have mp : w.M p := E.sub i p fp
          obtain ⟨gp, rs'⟩ := rs.putDic mp r g2 el
          have nap : a ≠ p := fun z => nG (z ▸ gp)
          have lv : ∀ b, w.H b ≠ none → upd w.H p (.dK vs') b ≠ none := fun b hb => by
            by_cases z : b = p
            · rw [z, upd_same]; simp
            · rw [upd_ne z]; exact hb
          refine ⟨⟨w.M, fun j b => if j = i then w.F i b else w.F j b, upd w.H p (.dK vs')⟩, rfl, E.chg (s' := .ins c (putFd f (.dic kvs') fs)) (Fi := w.F i) ev (fun b u nb e => by rw [upd_ne (fun (z : b = p) => nb (z ▸ fp))]; exact e) lv (fun b f => ⟨E.sub i b f, fun j hj z => hj (E.dis j i b z f)⟩) ⟨a, C, ns, dx, vs, G, rfl, hC, by rw [upd_ne nap]; exact ha, rs', nG, hFr⟩,
            ⟨fun b u nb e => ?_, fun _ _ m => m, fun _ m => .inl m, fun j b f => ?_, lv⟩⟩
          · show upd w.H p (.dK vs') b = some u
            rw [upd_ne (fun (z : b = p) => nb i (z ▸ fp))]
            exact e
          · have f' : (if j = i then w.F i b else w.F j b) := f
            split at f'
            · exact .inl ⟨i, f'⟩
            · exact .inl ⟨j, f'⟩
      · cases h
    · cases hs
/-- d[k] = v -/
def mDPut {Γ : Gam} (pl : Pl) (qk : QE) (fe : Ev Γ) : Es Γ := fun env =>
  match fe env with
  | some (.dat d, env1) => match getP pl env1, evQ qk env1 with
    | some (.dic kvs), some (.dat kd) => match keyOf kd with
      | some k => if kvs.length < sizeLine then (setD (putD kvs k d) pl env1).map fun e => (.nx, e) else none
      | none => none
    | _, _ => none
  | _ => none
theorem sds_dput {pl : Pl} {fe : Ev Γ} {tpos : Pos} (ha : SdQ Γ X a (.pl pl)) (hb : SdQ Γ X b q2) (he' : SdE Γ X e fe) (hs : swapsWith e (some (.Subscript a b tpos)) pos.line X.env = pure false := by rfl) : SdS Γ X A (.Assign [.Subscript a b tpos] e pos) (mDPut pl q2 fe) := by
  intro hK σ env fl env' w D he E k
  refine wS.of (ps_dput hK.hu pe_wE pe_wE pe_wE hs) ?_
  unfold mDPut at he
  split at he
  · rename_i d env1 g1
    split at he
    · rename_i kvs kd g2 g3
      split at he
      · rename_i kk g4
        split at he
        · rename_i hl
          cases g5 : setD (putD kvs kk d) pl env1 with
          | none => rw [g5] at he; cases he
          | some e2 =>
            rw [g5] at he
            cases he
            refine he' hK σ env _ _ w _ g1 E fun v w1 Fr E1 T1 p1 f1 => ?_
            refine ha hK σ env1 _ w1 _ g2 E1 fun x G rx hx => ?_
            refine hb hK σ env1 _ w1 _ g3 E1 fun y G2 ry _ => ?_
            obtain ⟨p, vs, rfl, hp, r⟩ := rx.dic
            refine ⟨p, _, rfl, by rw [keyOf_dat ry.1 g4]; exact DPut.k hp (by rw [r.length]; exact hl), ?_⟩
            obtain ⟨w2, eH, E2, p2⟩ := E1.putDic g2 hx (r.put (k := kk) T1.rep.1) g5
            rw [← eH]
            exact k σ w2 E2 (p1.trans p2 E.dom) Agree.refl
        · cases he
      · cases he
    · cases he
  · cases he
end
end G

/-! G17: attributes stored, instances made, methods called -/
namespace G
open PySem L2
section
variable {Γ : Gam} {X : Cx} {A : List Nat} {σ : St} {env env' : Env Γ} {w : Wd} {e : Expr} {es : List Expr} {pos : Pos}

/-! ### a name's thing goes out of its slot -/
def mMv {Γ : Gam} (i : Nat) : Ev Γ := fun env => (got env[i]?).map fun s => (s, env.set i .none)
theorem sd_mv (i : Nat) {x : Str} (hN : X.N[i]? = some x := by rfl) (hv : Vis X.env.scope x := by first | exact Or.inl rfl | exact Or.inr (Or.inl rfl) | exact Or.inr (Or.inr rfl)) (hd : (x == ("__debug__" : Str)) = false := by decide) (hcd : (x == ("__classdict__" : Str)) = false := by decide) : SdE Γ X (.Name x pos) (mMv i) := by
  intro hK σ env r env' w Q he E k
  unfold mMv at he
  cases g : got env[i]? with
  | none => rw [g] at he; cases he
  | some s =>
    rw [g] at he
    cases he
    obtain ⟨v, ev, rv⟩ := E.at g
    refine wE.of (pe_var hN hv hd hcd) ⟨v, ev, k v ⟨w.M, fun j a => w.F j a ∧ j ≠ i, w.H⟩ (w.F i) (E.moved i) ⟨rv, fun a f => E.sub i a f, fun a j f z => z.2 (E.dis j i a z.1 f)⟩ ⟨fun _ _ _ q => q, fun _ _ m => m, fun _ m => .inl m, fun j _ f => .inl ⟨j, f.1⟩, fun _ q => q⟩ fun a f => .inl ⟨i, f⟩⟩

/-! ### self.f = e -/
def Sl.fd {Γ : Gam} : Sl Γ → Option Fd
  | .dat d => some (.dat d)
  | .lst ds => some (.lst ds)
  | .dic kvs => some (.dic kvs)
  | _ => Option.none
theorem SR.fdr {M : Addr → Prop} {H : Hp} {v : V} {s : Sl Γ} {x : Fd} {G : Addr → Prop} (h : SR Γ M H v s G) (e : s.fd = some x) : FdR Γ M H v x G := by
  cases s with
  | dat d => cases e; exact h
  | lst ds => cases e; exact h
  | dic kvs => cases e; exact h
  | _ => cases e
theorem FdRs.put {M : Addr → Prop} {H : Hp} {f : Str} {v : V} {x : Fd} {G1 : Addr → Prop} (h : FdR Γ M H v x G1) : ∀ {vs : List (Str × V)} {fs : List (Str × Fd)} {G : Addr → Prop}, FdRs Γ M H vs fs G → (∀ a, G1 a → ¬ G a) → ∃ G', FdRs Γ M H (putF f v vs) (putFd f x fs) G' ∧ ∀ a, G' a → G a ∨ G1 a
  | _, _, G, .nil hG, d => ⟨G1, .cons (G2 := fun _ => False) h (.nil fun _ z => z) (fun _ _ z => z) (fun a => ⟨fun z => .inl z, fun z => z.elim id False.elim⟩), fun a z => .inr z⟩
  | _, _, G, .cons (n := n) (G1 := g1) (G2 := g2) hh r dd eq, d => by
    by_cases e : n = f
    · refine ⟨fun a => G1 a ∨ g2 a, ?_, fun a z => z.elim .inr fun q => .inl ((eq a).mpr (.inr q))⟩
      unfold putF putFd
      rw [if_pos e, if_pos e]
      exact .cons h r (fun a z q => d a z ((eq a).mpr (.inr q))) fun a => Iff.rfl
    · obtain ⟨G', h1, h2⟩ := FdRs.put h r fun a z q => d a z ((eq a).mpr (.inr q))
      refine ⟨fun a => g1 a ∨ G' a, ?_, fun a z => z.elim (fun q => .inl ((eq a).mpr (.inl q))) fun q => (h2 a q).imp (fun y => (eq a).mpr (.inr y)) id⟩
      unfold putF putFd
      rw [if_neg e, if_neg e]
      exact .cons hh h1 (fun a z q => (h2 a q).elim (fun y => dd a z y) fun y => d a y ((eq a).mpr (.inl z))) fun a => Iff.rfl
theorem FdRs.len {M : Addr → Prop} {H : Hp} : ∀ {vs : List (Str × V)} {fs : List (Str × Fd)} {G : Addr → Prop}, FdRs Γ M H vs fs G → vs.length = fs.length
  | _, _, _, .nil _ => rfl
  | _, _, _, .cons _ r _ _ => by rw [List.length_cons, List.length_cons, FdRs.len r]
theorem FdRs.nolook {M : Addr → Prop} {H : Hp} {f : Str} : ∀ {vs : List (Str × V)} {fs : List (Str × Fd)} {G : Addr → Prop}, FdRs Γ M H vs fs G → fs.lookup f = none → vs.lookup f = none
  | _, _, _, .nil _, _ => rfl
  | _, _, _, .cons (n := n) h r d eq, e => by
    rw [List.lookup_cons] at e ⊢
    cases hn : (f == n) with
    | true => rw [hn] at e; cases e
    | false => rw [hn] at e; exact FdRs.nolook r e
def mFSet {Γ : Gam} (i : Nat) (f : Str) (fe : Ev Γ) : Es Γ := fun env =>
  match fe env with
  | some (s, env1) => match s.fd, env1[i]? with
    | some x, some (.ins c fs) => if Γ.has c f = true ∧ fs.length < 1000 then some (.nx, env1.set i (.ins c (putFd f x fs))) else none
    | _, _ => none
  | none => none
theorem sds_fld (i : Nat) {x f : Str} {fe : Ev Γ} {npos tpos : Pos} (hF : FldOk Γ f) (hN : X.N[i]? = some x) (hv : Vis X.env.scope x) (he' : SdE Γ X e fe) (hd : (x == ("__debug__" : Str)) = false := by decide) (hcd : (x == ("__classdict__" : Str)) = false := by decide)
    (hs : swapsWith e (some (.Attribute (.Name x npos) f tpos)) pos.line X.env = pure false := by rfl) : SdS Γ X A (.Assign [.Attribute (.Name x npos) f tpos] e pos) (mFSet i f fe) := by
  intro hK σ env fl env' w D he E k
  refine wS.of (ps_fld (pe_var hN hv hd hcd) pe_wE hs) ?_
  unfold mFSet at he
  cases g1 : fe env with
  | none => simp only [g1] at he; cases he
  | some q =>
    obtain ⟨s, env1⟩ := q
    simp only [g1] at he
    split at he
    · rename_i y c fs g2 g3
      split at he
      · rename_i hc
        cases he
        refine he' hK σ env _ _ w _ g1 E fun v w1 Fr E1 T1 p1 f1 => ?_
        obtain ⟨u, ev, a, C, ns, dx, vs, G, rfl, hC, ha, rs, nG, hFr⟩ := E1.at (i := i) (s := .ins c fs) (by rw [g3]; rfl)
        have hc1 := hc.1
        unfold Gam.has at hc1
        rw [hC] at hc1
        obtain ⟨c1, c2⟩ := hF c C ns hC hc1
        refine ⟨_, ev, a, C, dx, vs, rfl, ha, hK.k ▸ c1, hK.k ▸ c2, by rw [rs.len]; exact hc.2, ?_⟩
        have dG : ∀ b, Fr b → ¬ G b := fun b z q => T1.off b i z ((hFr b).mpr (.inr q))
        obtain ⟨G', r', hG'⟩ := FdRs.put (f := f) (T1.rep.fdr g2) rs dG
        have ma : w1.M a := E1.sub i a ((hFr a).mpr (.inl rfl))
        have fa : w1.F i a := (hFr a).mpr (.inl rfl)
        have naG : ¬ G' a := fun z => (hG' a z).elim nG fun q => T1.off a i q fa
        have go : Go w1.M w1.H w1.M (upd w1.H a (.ins C dx (putF f v vs))) := ⟨fun b o nb q => by rw [upd_ne (fun (z : b = a) => nb (z ▸ ma))]; exact q, fun _ nb _ => nb⟩
        have lv : ∀ b, w1.H b ≠ none → upd w1.H a (.ins C dx (putF f v vs)) b ≠ none := fun b hb => by
          by_cases z : b = a
          · rw [z, upd_same]; simp
          · rw [upd_ne z]; exact hb
        have E2 := E1.chg (i := i) (v := .ref a) (s' := .ins c (putFd f y fs)) (Fi := fun b => b = a ∨ G' b) (H' := upd w1.H a (.ins C dx (putF f v vs))) ev (fun b o nb q => by rw [upd_ne (fun (z : b = a) => nb (z ▸ fa))]; exact q) lv
          (fun b z => by
            rcases z with z | z
            · subst z; exact ⟨ma, fun j hj q => hj (E1.dis j i b q fa)⟩
            · rcases hG' b z with q | q
              · have fb := (hFr b).mpr (.inr q)
                exact ⟨E1.sub i b fb, fun j hj y => hj (E1.dis j i b y fb)⟩
              · exact ⟨T1.sub b q, fun j _ y => T1.off b j q y⟩)
          ⟨a, C, ns, dx, _, G', rfl, hC, upd_same, r'.keep ma naG fun b nb => upd_ne nb, naG, fun b => Iff.rfl⟩
        refine k σ ⟨w1.M, fun j b => if j = i then (b = a ∨ G' b) else w1.F j b, upd w1.H a (.ins C dx (putF f v vs))⟩ E2 ⟨fun b o nb q => ?_, p1.mu, p1.src, fun j b z => ?_, fun b hb => lv b (p1.live b hb)⟩ Agree.refl
        · show upd w1.H a (.ins C dx (putF f v vs)) b = some o
          have : b ≠ a := fun z => by
            have hb := p1.own i a fa
            rcases hb with ⟨j, y⟩ | y
            · exact nb j (z ▸ y)
            · rw [z, y] at q; cases q
          rw [upd_ne this]
          exact p1.keep b o nb q
        · have z' : (if j = i then (b = a ∨ G' b) else w1.F j b) := z
          split at z'
          · rcases z' with y | y
            · rw [y]; exact p1.own i a fa
            · rcases hG' b y with q | q
              · exact p1.own i b ((hFr b).mpr (.inr q))
              · exact f1 b q
          · exact p1.own j b z'
      · cases he
    · cases he

/-! ### C(e, ..) -/
theorem ARs.here {w : Wd} (E : ER Γ w σ env) : ∀ {vs : List V} {xs : List (Ag Γ)} {Frs : List (Addr → Prop)}, ARs Γ w σ vs xs Frs → ∀ G ∈ Frs, ∀ a, G a → w.H a ≠ none
  | _, _, _, .nil, G, hG => nomatch hG
  | _, _, _, .cons h d r, G, hG => fun a ga => by
    rcases List.mem_cons.mp hG with z | z
    · subst z; exact (h.here E a ga).1
    · exact ARs.here E r G z a ga
def mMake {Γ : Gam} (c np : Nat) (g : Fn Γ) (as : List (AE Γ)) : Ev Γ := fun env =>
  match evAs as env with
  | none => none
  | some (xs, env1) => match takeA xs env1 with
    | none => none
    | some (args, env2, bs) => if args.length + 1 = np then
        match g (.ins c [] :: args) with
        | some (.dat .non, .ins c' fs :: args') => some (.ins c' fs, putA bs args' env2)
        | _ => none
      else none
theorem make_run {c np : Nat} {C : Addr} {ns : List Str} {g : Fn Γ} {as : List (AE Γ)} {r : Sl Γ} {Q : VK} {E0 : XK} (hK : Gd Γ X) (hC : Γ.cls c = some (C, ns)) (ha : SdL Γ X es as) (he : mMake c np g as env = some (r, env')) (E : ER Γ w σ env)
    (k : ∀ v w' Fr, ER Γ w' σ env' → TR Γ w' v r Fr → Step w w' → Fresh w Fr → Q v w'.H) :
    wL X es σ w.H fun vs H1 => ∀ x dx, H1 x = none → H1 dx = none → dx ≠ x → spG Γ np g (.ref x :: vs) (upd (upd H1 dx (.own x)) x (.ins C dx [])) (fun v H2 => v = .non ∧ Q (.ref x) H2) E0 := by
  unfold mMake at he
  cases g1 : evAs as env with
  | none => simp only [g1] at he; cases he
  | some q =>
    obtain ⟨xs, env1⟩ := q
    simp only [g1] at he
    cases g2 : takeA xs env1 with
    | none => simp only [g2] at he; cases he
    | some q =>
      obtain ⟨args, env2, bs⟩ := q
      simp only [g2] at he
      split at he
      · rename_i hn
        split at he
        · rename_i c' fs args' g3
          cases he
          refine sdl_run hK ha g1 E fun vs w1 Frs E1 A1 p1 f1 x dx hx hdx hne => ?_
          have ext : ∀ b u, w1.H b = some u → upd (upd w1.H dx (.own x)) x (.ins C dx []) b = some u := fun b u e => by rw [upd_ne (ne_of_none e hx), upd_ne (ne_of_none e hdx)]; exact e
          obtain ⟨E2, p2⟩ := E1.grow (Fr := fun b => b = x) ext (fun b z => by subst z; exact ⟨hx, by rw [upd_same]; simp⟩)
          have A2 := A1.step E1 p2
          have T2 : TR Γ ⟨fun a => w1.M a ∨ a = x, w1.F, upd (upd w1.H dx (.own x)) x (.ins C dx [])⟩ (.ref x) (.ins c []) (fun b => b = x) :=
            ⟨⟨x, C, ns, dx, [], fun _ => False, rfl, hC, upd_same, .nil fun _ z => z, fun z => z, fun b => ⟨fun z => .inl z, fun z => z.elim id False.elim⟩⟩, fun b z => .inr z, fun b i z y => by subst z; exact E1.dom b (E1.sub i b y) hx⟩
          have hxw : w.H x = none := by
            cases q : w.H x with
            | none => rfl
            | some u => exact absurd hx (p1.live x (by rw [q]; simp))
          refine call_coreX (w := w) (env := env) (xs := .val (.ins c []) :: xs) (Frs := (fun b => b = x) :: Frs) E (p1.trans p2 E.dom) E2 (.cons T2 (fun G hG b z y => ?_) A2) (fun G hG => ?_) (args := .ins c [] :: args) (env2 := env2) (bs := none :: bs) (by simp only [takeA, g2, Option.map_some]) (by simpa using hn) g3 fun v w' Fr E' T' p' f' ex => ?_
          · subst z
            exact A1.here E1 G hG b y hx
          · rcases List.mem_cons.mp hG with z | z
            · subst z; exact fun b y => .inr (y ▸ hxw)
            · exact f1 G z
          · refine ⟨T'.rep.non rfl, ?_⟩
            rcases ex 0 _ rfl rfl with z | ⟨u, G, eu, T3, f3⟩
            · cases z
            · cases eu
              have e' : putA (none :: bs) (.ins c' fs :: args') env2 = putA bs args' env2 := rfl
              rw [e'] at E'
              exact k _ w' G E' T3 p' f3
        · cases he
      · cases he
end
end G

/-! G18: methods (also with keywords), instances made by a def with a star parameter, own operators -/
namespace G
open PySem L2
def mGo {Γ : Gam} (np : Nat) (g : Fn Γ) (xs : List (Ag Γ)) (env : Env Γ) : Option (Sl Γ × Env Γ) :=
  match takeA xs env with
  | none => none
  | some (args, env2, bs) => if args.length = np then
      match g args with
      | none => none
      | some (r, args') => some (r, putA bs args' env2)
    else none
section
variable {Γ : Gam} {X : Cx} {A : List Nat} {σ : St} {env env' : Env Γ} {w : Wd} {e : Expr} {es : List Expr} {pos apos npos : Pos} {c np : Nat} {g : Fn Γ} {as : List (AE Γ)} {m : Str}
theorem go_run {env1 : Env Γ} {xs : List (Ag Γ)} {vs : List V} {Frs : List (Addr → Prop)} {r : Sl Γ} {w1 : Wd} {Q : VK} {E0 : XK} (E : ER Γ w σ env) (p1 : Step w w1) (E1 : ER Γ w1 σ env1) (A1 : ARs Γ w1 σ vs xs Frs) (f1 : ∀ G ∈ Frs, Fresh w G)
    (he : mGo np g xs env1 = some (r, env')) (k : ∀ v w' Fr, ER Γ w' σ env' → TR Γ w' v r Fr → Step w w' → Fresh w Fr → Q v w'.H) : spG Γ np g vs w1.H Q E0 := by
  unfold mGo at he
  cases g2 : takeA xs env1 with
  | none => simp only [g2] at he; cases he
  | some q =>
    obtain ⟨args, env2, bs⟩ := q
    simp only [g2] at he
    split at he
    · rename_i hn
      cases g3 : g args with
      | none => simp only [g3] at he; cases he
      | some q =>
        obtain ⟨r1, args'⟩ := q
        simp only [g3] at he
        cases he
        exact call_core E p1 E1 A1 f1 g2 hn g3 k
    · cases he

/-! ### o.m(..) -/
structure Mf (Γ : Gam) (X : Cx) (c : Nat) (m : Str) (np : Nat) (g : Fn Γ) : Prop where
  ex : ∃ C ns k f fd ps, Γ.cls c = some (C, ns) ∧ Cls X.K C ∧ Meth X.K C m f ∧ FnOk X.prog X.w X.K X.mg X.base CX0 k f fd ps (spG Γ np g) ∧ Room k X.A ∧ Binds X.K fd ps []
def mMeth {Γ : Gam} (c : Nat) (m : Str) (np : Nat) (g : Fn Γ) (i : Nat) (as : List (AE Γ)) : Ev Γ := fun env =>
  match env[i]? with
  | some (.ins c' fs) => if c' = c ∧ fs.lookup m = none then
      match evAs as env with
      | none => none
      | some (xs, env1) => mGo np g (.brw i :: xs) env1
    else none
  | _ => none
theorem meth_run {i : Nat} {C : Addr} {ns : List Str} {r : Sl Γ} {Q : VK} {E0 : XK} (hK : Gd Γ X) (hC : Γ.cls c = some (C, ns)) (ha : SdL Γ X es as) (he : mMeth c m np g i as env = some (r, env')) (E : ER Γ w σ env)
    (k : ∀ v w' Fr, ER Γ w' σ env' → TR Γ w' v r Fr → Step w w' → Fresh w Fr → Q v w'.H) :
    ∃ a dx fs, σ[i]? = some (some (.ref a)) ∧ w.H a = some (.ins C dx fs) ∧ fs.lookup m = none ∧ wL X es σ w.H fun vs H2 => spG Γ np g (.ref a :: vs) H2 Q E0 := by
  unfold mMeth at he
  split at he
  · rename_i c' fs g0
    split at he
    · rename_i hc
      obtain ⟨rfl, hl⟩ := hc
      cases g1 : evAs as env with
      | none => simp only [g1] at he; cases he
      | some q =>
        obtain ⟨xs, env1⟩ := q
        simp only [g1] at he
        obtain ⟨u, ev, a, C', ns', dx, vs, G, rfl, hC', hA, rs, nG, hFr⟩ := E.at (i := i) (s := .ins c' fs) (by rw [g0]; rfl)
        rw [hC] at hC'
        cases hC'
        refine ⟨a, dx, vs, ev, hA, rs.nolook hl, ?_⟩
        exact sdl_run hK ha g1 E fun ws w1 Frs E1 A1 p1 f1 => go_run (Frs := (fun _ => False) :: Frs) E p1 E1 (.cons (show AR Γ w1 σ (.ref a) (.brw i) (fun _ => False) from ⟨ev, fun _ z => z⟩) (fun _ _ _ z => z.elim) A1) (fun G hG => by
          rcases List.mem_cons.mp hG with z | z
          · subst z; exact fun _ q => q.elim
          · exact f1 G z) he k
    · cases he
  · cases he
theorem sd_meth (i : Nat) {x : Str} {pl : Sem Bool} (h : Mf Γ X c m np g) (hN : X.N[i]? = some x) (hv : Vis X.env.scope x) (ha : SdL Γ X (e :: es) as) (hd : (x == ("__debug__" : Str)) = false := by decide) (hcd : (x == ("__classdict__" : Str)) = false := by decide)
    (hpl : (backTo pos (starEach es X.env)).any (·.1) = false := by rfl)
    (ht : eval (.Call (.Attribute (.Name x npos) m apos) (e :: es) [] pos) X.env = (do
      let ov ← eval (.Name x npos) X.env
      standAt apos.atName
      let (f, first) ← holding [ov] (getMethod ov m pl)
      callWith pos f first (backTo pos (starEach (e :: es) X.env)) (backToKw pos (keywordEach [] X.env))) := by rfl) : SdE Γ X (.Call (.Attribute (.Name x npos) m apos) (e :: es) [] pos) (mMeth c m np g i as) := by
  obtain ⟨C, ns, k0, f, fd, ps, h1, h2, h3, h4, h5, h6⟩ := h
  intro hK σ env r env' w Q he E k
  refine wE.of (pe_meth (E := E0) (pe_var hN hv hd hcd) h2 h3 h4 h5 h6 .nil pass0 (pa_wL ha.ns) (ha.ns e List.mem_cons_self es) hpl ht) ?_
  obtain ⟨a, dx, fs, q1, q2, q3, q4⟩ := meth_run (E0 := E0) hK h1 ha he E k
  refine ⟨_, q1, a, dx, fs, rfl, q2, q3, ?_⟩
  simp only [List.append_nil]
  exact q4
theorem sd_meth0 (i : Nat) {x : Str} {pl : Sem Bool} (h : Mf Γ X c m np g) (hN : X.N[i]? = some x) (hv : Vis X.env.scope x) (hd : (x == ("__debug__" : Str)) = false := by decide) (hcd : (x == ("__classdict__" : Str)) = false := by decide)
    (ht : eval (.Call (.Attribute (.Name x npos) m apos) [] [] pos) X.env = (do
      let ov ← eval (.Name x npos) X.env
      standAt apos.atName
      let (f, first) ← holding [ov] (getMethod ov m pl)
      callWith pos f first (backTo pos (starEach [] X.env)) (backToKw pos (keywordEach [] X.env))) := by rfl) : SdE Γ X (.Call (.Attribute (.Name x npos) m apos) [] [] pos) (mMeth c m np g i []) := by
  obtain ⟨C, ns, k0, f, fd, ps, h1, h2, h3, h4, h5, h6⟩ := h
  intro hK σ env r env' w Q he E k
  refine wE.of (pe_meth0 (E := E0) (pe_var hN hv hd hcd) h2 h3 h4 h5 h6 .nil pass0 ht) ?_
  obtain ⟨a, dx, fs, q1, q2, q3, q4⟩ := meth_run (E0 := E0) hK h1 .nil he E k
  exact ⟨_, q1, a, dx, fs, rfl, q2, q3, q4⟩

/-! ### o.m(.., k = v) -/
structure KB (K : PySem.W.Frag) (fd : FuncData) (ps ks : List Str) (n1 : Nat) : Prop where
  to : ∀ (s : Shared) (us ws : List Value), K.In s.heap → us.length = n1 → ws.length = ks.length → BindsTo s fd ⟨us, ks.zip ws⟩ (ps.zip (us ++ ws))
def tMethK (C : Addr) (m : Str) (sp : Sp) (n1 n2 : Nat) (E : XK) (ta : TE) (t tk : TA) : TE := fun σ H Q => ta σ H fun x H1 => ∃ a dx fs, x = .ref a ∧ H1 a = some (.ins C dx fs) ∧ fs.lookup m = none ∧
  t σ H1 fun vs H2 => tk σ H2 fun zs H3 => vs.length + 1 = n1 ∧ zs.length = n2 ∧ sp (x :: (vs ++ zs)) H3 Q E
theorem pe_methK {CX : CXT} {k n1 : Nat} {f C : Addr} {fd : FuncData} {ps ks : List Str} {sp : Sp} {E : XK} {o : Expr} {kws : List Keyword} {ta : TE} {t tk : TA} {pl : Sem Bool} (he : PE X o ta) (c : Cls X.K C) (hm : Meth X.K C m f) (F : FnOk X.prog X.w X.K X.mg X.base CX k f fd ps sp) (hr : Room k X.A) (hb : KB X.K fd ps ks n1) (hx : Passes CX X E) (ha : PA X (e :: es) t) (hkw : PK X kws tk)
    (hall : (backToKw pos (keywordEach kws X.env)).all (·.1.isSome) = true) (hks : (backToKw pos (keywordEach kws X.env)).filterMap (·.1) = ks)
    (hst : starEach (e :: es) X.env = (false, eval e X.env) :: starEach es X.env) (hpl : ((backTo pos (starEach (e :: es) X.env)).any (·.1) || (backToKw pos (keywordEach kws X.env)).any (·.1.isNone)) = false)
    (ht : eval (.Call (.Attribute o m apos) (e :: es) kws pos) X.env = (do
      let ov ← eval o X.env
      standAt apos.atName
      let (f, first) ← holding [ov] (getMethod ov m pl)
      callWith pos f first (backTo pos (starEach (e :: es) X.env)) (backToKw pos (keywordEach kws X.env)))) :
    PE X (.Call (.Attribute o m apos) (e :: es) kws pos) (tMethK C m sp n1 ks.length E ta t tk) := by
  refine ⟨fun pins s σ H Q I h => ?_⟩
  refine PySem.W.methodCall_KW (pl := pl) (thn (he.run pins s σ H _ I h) fun u s1 ⟨x, H1, I1, rx, a, dx, fs, ex, ea, l, q⟩ => ?_) ht
  subst ex
  obtain rfl : u = Value.ref a := rx
  refine getmeth_ok I1 ea c hm l ?_
  refine PySem.W.callWith_KW (first := [.ref a]) (h₀ := X.base) I.ok.mod.kin hm.kp hall (thn (ha.run pos pins s1 σ H1 _ I1 q) fun us s2 ⟨vs, H2, I2, r, q2⟩ => ?_) hpl hst
  refine thn (hkw.run pos pins s2 σ H2 _ I2 q2) fun ws s3 ⟨zs, H3, I3, rz, l1, l2, q3⟩ => ⟨I3.kIn, ?_⟩
  rw [hks]
  have r2 : Vals (.ref a :: (vs ++ zs)) ([.ref a] ++ us ++ ws) := .cons rfl (r.append rz)
  refine wpAny_call (codeAny_mono (F.run X.A X.stack s3 H3 ⟨[.ref a] ++ us, ks.zip ws⟩ ([.ref a] ++ us ++ ws) (.ref a :: (vs ++ zs)) Q E hr I3.env0 (hb.to s3 _ ws I3.kIn (by have := r.length; simp; omega) (by have := rz.length; omega)) r2 q3) fun r s' hq => ?_)
  cases r with
  | error e => exact hx pins σ H3 s3 e s' I3 hq
  | ok fl =>
    cases fl with
    | ret u => exact I3.after hq
    | next => exact False.elim hq
    | brk => exact False.elim hq
    | cont => exact False.elim hq
theorem pk_wL : ∀ {kws : List Keyword}, PK X kws (wL X (kws.map (·.value)))
  | [] => pk_nil
  | ⟨_, _, _⟩ :: kws => pk_cons pe_wE pk_wL
theorem wL_app : ∀ {es fs : List Expr} {H : Hp} {Q : List V → Hp → Prop}, wL X (es ++ fs) σ H Q → wL X es σ H fun vs H1 => wL X fs σ H1 fun zs H2 => Q (vs ++ zs) H2
  | [], _, _, _, h => h
  | _ :: es, fs, _, Q, h => fun pins s I => thn (h pins s I) fun u s1 ⟨x, H1, I1, rx, q⟩ => ⟨x, H1, I1, rx, wL_app (es := es) (fs := fs) q⟩
theorem wL_len : ∀ {es : List Expr} {H : Hp} {Q : List V → Hp → Prop}, wL X es σ H Q → wL X es σ H fun vs H1 => vs.length = es.length ∧ Q vs H1
  | [], _, _, h => ⟨rfl, h⟩
  | _ :: es, _, Q, h => fun pins s I => thn (h pins s I) fun u s1 ⟨x, H1, I1, rx, q⟩ => ⟨x, H1, I1, rx, by
      have := wL_len (es := es) q
      have e : (fun (vs : List V) (H1 : Hp) => vs.length = es.length ∧ Q (x :: vs) H1) = fun (vs : List V) (H1 : Hp) => (x :: vs).length = (es.length + 1) ∧ Q (x :: vs) H1 := by
        funext vs H1; simp
      rw [e] at this
      exact this⟩
theorem wL_imp {es : List Expr} {H : Hp} {Q Q' : List V → Hp → Prop} (h : wL X es σ H Q) (i : ∀ vs H, Q vs H → Q' vs H) : wL X es σ H Q' := by
  induction es generalizing H Q Q' with
  | nil => exact i _ _ h
  | cons e es ih => exact fun pins s I => thn (h pins s I) fun u s1 ⟨x, H1, I1, rx, q⟩ => ⟨x, H1, I1, rx, ih q fun vs H => i _ _⟩
structure MfK (Γ : Gam) (X : Cx) (c : Nat) (m : Str) (np : Nat) (g : Fn Γ) (ks : List Str) (n1 : Nat) : Prop where
  ex : ∃ C ns k f fd ps, Γ.cls c = some (C, ns) ∧ Cls X.K C ∧ Meth X.K C m f ∧ FnOk X.prog X.w X.K X.mg X.base CX0 k f fd ps (spG Γ np g) ∧ Room k X.A ∧ KB X.K fd ps ks n1
theorem sd_methK (i : Nat) {x : Str} {pl : Sem Bool} {ks : List Str} {n1 : Nat} {kws : List Keyword} (h : MfK Γ X c m np g ks n1) (hN : X.N[i]? = some x) (hv : Vis X.env.scope x) (ha : SdL Γ X (e :: es ++ kws.map (·.value)) as) (hl1 : (e :: es).length + 1 = n1) (hl2 : kws.length = ks.length)
    (hd : (x == ("__debug__" : Str)) = false := by decide) (hcd : (x == ("__classdict__" : Str)) = false := by decide)
    (hall : (backToKw pos (keywordEach kws X.env)).all (·.1.isSome) = true := by rfl) (hks : (backToKw pos (keywordEach kws X.env)).filterMap (·.1) = ks := by rfl)
    (hpl : ((backTo pos (starEach (e :: es) X.env)).any (·.1) || (backToKw pos (keywordEach kws X.env)).any (·.1.isNone)) = false := by rfl)
    (ht : eval (.Call (.Attribute (.Name x npos) m apos) (e :: es) kws pos) X.env = (do
      let ov ← eval (.Name x npos) X.env
      standAt apos.atName
      let (f, first) ← holding [ov] (getMethod ov m pl)
      callWith pos f first (backTo pos (starEach (e :: es) X.env)) (backToKw pos (keywordEach kws X.env))) := by rfl) : SdE Γ X (.Call (.Attribute (.Name x npos) m apos) (e :: es) kws pos) (mMeth c m np g i as) := by
  obtain ⟨C, ns, k0, f, fd, ps, h1, h2, h3, h4, h5, h6⟩ := h
  intro hK σ env r env' w Q he E k
  have hns := ha.ns
  refine wE.of (pe_methK (E := E0) (pe_var hN hv hd hcd) h2 h3 h4 h5 h6 pass0 (pa_wL fun y hy => hns y (List.mem_append_left _ hy)) pk_wL hall hks (hns e (by simp) es) hpl ht) ?_
  obtain ⟨a, dx, fs, q1, q2, q3, q4⟩ := meth_run (E0 := E0) hK h1 ha he E k
  refine ⟨_, q1, a, dx, fs, rfl, q2, q3, ?_⟩
  refine wL_imp (wL_len (wL_app (es := e :: es) q4)) fun vs H1 ⟨z1, z2⟩ => ?_
  refine wL_imp (wL_len z2) fun zs H2 ⟨z3, z4⟩ => ⟨by rw [z1]; exact hl1, by rw [z3, List.length_map]; exact hl2, z4⟩
end
end G

/-! G19: instances made by a def with a star parameter; own operators -/
namespace G
open PySem L2
section
variable {Γ : Gam} {X : Cx} {A : List Nat} {σ : St} {env env' : Env Γ} {w : Wd} {e a b : Expr} {es : List Expr} {pos apos npos : Pos} {c np : Nat} {g : Fn Γ} {as : List (AE Γ)} {m x : Str}
/-- a body's derivation gives the promise by data -/
theorem body_ok {P : Program} {w : World} {mg : Str → Option Value} {base : Heap} {qual : Str} {st : Stmt} {f : Addr} {N ps : List Str} {k : Nat} {A : List Nat} {body : Es Γ} (S : FnScope N ps (defScope st))
    (hb : ∀ (cdv : Value) (Ar : Around) (outer : List PySem.Env) (s : Shared) (H : Hp) (E : XK), Room k (Ar.deeper (PyProof.Rows.envOfC qual (defScope st) s.heap.objs.size f cdv)) → SdSs Γ (cxOf CX0 P w Γ.K mg base N qual (defScope st) f cdv Ar outer s H E).nox A (defBody st) body)
    (cdv : Value) (Ar : Around) (outer : List PySem.Env) (s : Shared) (H : Hp) (vs : List V) (Q : VK) (E : XK) (hr : Room k (Ar.deeper (PyProof.Rows.envOfC qual (defScope st) s.heap.objs.size f cdv))) (h : spG Γ ps.length (mFun ps.length (N.length - ps.length) A body) vs H Q E) :
    ∃ t, PSs (cxOf CX0 P w Γ.K mg base N qual (defScope st) f cdv Ar outer s H E).nox (defBody st) t ∧ t { nx := fun _ H' => Q .non H', rt := Q } (L2.start N vs) H := by
  obtain ⟨args, r, args', w1, hg, hl, rfl, Er, k1⟩ := h
  have hlv : vs.length = ps.length := by have := Er.len; rw [List.length_map] at this; omega
  unfold mFun at hg
  split at hg
  · rename_i hc
    refine ⟨_, pss_wSs, ?_⟩
    have es : L2.start N vs = vs.map some ++ List.replicate (N.length - ps.length) none := by unfold L2.start; rw [hlv]
    have Gx : Gd Γ (cxOf CX0 P w Γ.K mg base N qual (defScope st) f cdv Ar outer s w1.H E).nox := ⟨rfl, rfl, by have := hr.un; show (Ar.deeper (PyProof.Rows.envOfC qual (defScope st) s.heap.objs.size f cdv)).units + 65 < cLine; omega, S.nd⟩
    have E0 := Er.extend (N.length - ps.length)
    rw [es]
    split at hg
    · rename_i s1 env' g1
      cases hg
      refine hb cdv Ar outer s w1.H E hr Gx _ _ _ _ w1 _ g1 E0 fun v σ' w' Fr E' T' p' f' a' => ?_
      have hc2 := hc.2
      rw [← hl] at hc2
      have E2 := Er.cut E' p' a' hc2
      exact k1 v ⟨w'.M, fun i x => i < args.length ∧ i ∉ A ∧ w'.F i x, w'.H⟩ Fr (by rw [← hl]; exact E2) ⟨T'.rep, T'.sub, fun a i z q => T'.off a i z q.2.2⟩ ⟨p'.keep, p'.mu, p'.src, fun i a q => p'.own i a q.2.2, p'.live⟩ f'
    · rename_i env' g1
      cases hg
      refine hb cdv Ar outer s w1.H E hr Gx _ _ _ _ w1 _ g1 E0 fun σ' w' E' p' a' => ?_
      have hc2 := hc.2
      rw [← hl] at hc2
      have E2 := Er.cut E' p' a' hc2
      exact k1 .non ⟨w'.M, fun i x => i < args.length ∧ i ∉ A ∧ w'.F i x, w'.H⟩ (fun _ => False) (by rw [← hl]; exact E2) (TR.dat .non) ⟨p'.keep, p'.mu, p'.src, fun i a q => p'.own i a q.2.2, p'.live⟩ fun _ z => z.elim
    · cases hg
  · cases hg
/-- the promise of a def f(a, *v) -/
def spV (Γ : Gam) (np : Nat) (g : Fn Γ) : Sp := fun vs H Q E => ∃ ws rest, vs = ws ++ rest ∧ ws.length + 1 = np ∧ rest.length ≤ sizeLine ∧ ∀ p, H p = Option.none → spG Γ np g (ws ++ [V.ref p]) (upd H p (.tup rest)) Q E
theorem fn_starG {P : Program} {w : World} {mg : Str → Option Value} {base : Heap} {x qual : Str} {st : Stmt} {f : Addr} {fd : FuncData} {N ps : List Str} {pv : Str} {k np loc : Nat} {A : List Nat} {body : Es Γ} {g : Fn Γ} (F : Fun Γ.K x qual st f fd) (S : FnScope N (ps ++ [pv]) (defScope st))
    (e1 : (ps ++ [pv]).length = np) (e2 : N.length - np = loc) (e3 : g = mFun np loc A body)
    (hbi : ∀ (kV doc pm : Value) (an : Option Addr) (cdv ct : Value) (us rest : List Value), us.length = ps.length → bindArgs (PySem.W.fnOf x qual (defArgs st) (defBody st) (defScope st) .none kV doc pm an cdv ct) ⟨us ++ rest, []⟩ = (newTuple rest >>= fun t => pure (ps.zip us ++ [(pv, t)])))
    (hb : ∀ (cdv : Value) (Ar : Around) (outer : List PySem.Env) (s : Shared) (H : Hp) (E : XK), Room k (Ar.deeper (PyProof.Rows.envOfC qual (defScope st) s.heap.objs.size f cdv)) → SdSs Γ (cxOf CX0 P w Γ.K mg base N qual (defScope st) f cdv Ar outer s H E).nox A (defBody st) body) :
    FnR P w Γ.K mg base CX0 (k + 1) f (spV Γ np g) := by
  subst e1 e2 e3
  obtain ⟨oc, od, kV, doc, pm, an, cdv, ct, osl, rfl, lk, hcd⟩ := F.ex
  refine FnR.imp (StX.fn_star (sp := spG Γ (ps ++ [pv]).length (mFun (ps ++ [pv]).length (N.length - (ps ++ [pv]).length) A body)) (pv := pv) (ps := ps) lk hcd S StX.cxUp_none (fun us rest hl => hbi kV doc pm an cdv ct us rest hl) fun Ar outer s H vs Q E hr h => ?_) fun vs H Q E ⟨ws, rest, q1, q2, q3, q4⟩ => ⟨ws, rest, q1, by rw [List.length_append] at q2; simpa using q2, q3, q4⟩
  obtain ⟨t, h1, h2⟩ := body_ok S hb cdv Ar outer s H vs Q E hr h
  exact ⟨t, h1.nox, h2⟩

/-! ### C(..), the class's __init__ with a star parameter -/
structure MkV (Γ : Gam) (X : Cx) (c : Nat) (x : Str) (g : Fn Γ) : Prop where
  ex : ∃ C ns k f, Γ.cls c = some (C, ns) ∧ Mk X.K C f ∧ FnR X.prog X.w X.K X.mg X.base CX0 k f (spV Γ 2 g) ∧ Room (k + 1) X.A ∧ X.mg x = some (.ref C)
def mkV {Γ : Gam} (c : Nat) (g : Fn Γ) (ds : List D) : Option (Sl Γ) :=
  if ds.length ≤ 1000 then
    match g [.ins c [], .dat (.tup ds)] with
    | some (.dat .non, [.ins c' fs, _]) => some (.ins c' fs)
    | _ => none
  else none
theorem makeV_run {C : Addr} {ns : List Str} {s : Sl Γ} {Q : VK} {E0 : XK} {w1 : Wd} {vs : List V} {ds : List D} (hC : Γ.cls c = some (C, ns)) (E : ER Γ w σ env) (p1 : Step w w1) (E1 : ER Γ w1 σ env') (hD : Dats Γ w1.M w1.H vs ds) (he : mkV c g ds = some s)
    (k : ∀ v w' Fr, ER Γ w' σ env' → TR Γ w' v s Fr → Step w w' → Fresh w Fr → Q v w'.H) :
    ∀ x dx, w1.H x = none → w1.H dx = none → dx ≠ x → spV Γ 2 g (.ref x :: vs) (upd (upd w1.H dx (.own x)) x (.ins C dx [])) (fun v H2 => v = .non ∧ Q (.ref x) H2) E0 := by
  intro x dx hx hdx hne
  unfold mkV at he
  split at he
  · rename_i hl
    split at he
    · rename_i c' fs s2 g3
      cases he
      refine ⟨[.ref x], vs, rfl, rfl, by rw [hD.length]; exact Nat.le_trans hl (by decide), fun p hp => ?_⟩
      have hpx : p ≠ x := fun z => by rw [z, upd_same] at hp; cases hp
      have hpd : p ≠ dx := fun z => by rw [z, upd_ne hne, upd_same] at hp; cases hp
      have hp1 : w1.H p = none := by rw [upd_ne hpx, upd_ne hpd] at hp; exact hp
      have ext : ∀ b u, w1.H b = some u → upd (upd (upd w1.H dx (.own x)) x (.ins C dx [])) p (.tup vs) b = some u := fun b u e => by rw [upd_ne (ne_of_none e hp1), upd_ne (ne_of_none e hx), upd_ne (ne_of_none e hdx)]; exact e
      have hix : upd (upd (upd w1.H dx (.own x)) x (.ins C dx [])) p (.tup vs) x = some (.ins C dx []) := by rw [upd_ne (Ne.symm hpx), upd_same]
      obtain ⟨E2, p2⟩ := E1.grow (Fr := fun b => b = x) ext (fun b z => by subst z; exact ⟨hx, by rw [hix]; simp⟩)
      have T2 : TR Γ ⟨fun a => w1.M a ∨ a = x, w1.F, upd (upd (upd w1.H dx (.own x)) x (.ins C dx [])) p (.tup vs)⟩ (.ref x) (.ins c []) (fun b => b = x) :=
        ⟨⟨x, C, ns, dx, [], fun _ => False, rfl, hC, hix, .nil fun _ z => z, fun z => z, fun b => ⟨fun z => .inl z, fun z => z.elim id False.elim⟩⟩, fun b z => .inr z, fun b i z y => by subst z; exact E1.dom b (E1.sub i b y) hx⟩
      have npM : ¬ (w1.M p ∨ p = x) := fun z => z.elim (fun q => E1.dom p q hp1) hpx
      have T3 : TR Γ ⟨fun a => w1.M a ∨ a = x, w1.F, upd (upd (upd w1.H dx (.own x)) x (.ins C dx [])) p (.tup vs)⟩ (.ref p) (.dat (.tup ds)) (fun _ => False) :=
        ⟨⟨.tup (.inl ⟨npM, .inl upd_same⟩) (hD.go (E1.go p2)), fun _ z => z⟩, fun _ z => z.elim, fun _ _ z => z.elim⟩
      have hxw : w.H x = none := by
        cases q : w.H x with
        | none => rfl
        | some u => exact absurd hx (p1.live x (by rw [q]; simp))
      refine call_coreX (w := w) (env := env) (xs := [.val (.ins c []), .val (.dat (.tup ds))]) (Frs := [(fun b => b = x), fun _ => False]) E (p1.trans p2 E.dom) E2 (.cons T2 (fun G hG b z y => ?_) (.cons T3 (fun G hG => nomatch hG) .nil)) (fun G hG => ?_) (args := [.ins c [], .dat (.tup ds)]) (env2 := env') (bs := [none, none]) rfl rfl g3 fun v w' Fr E' T' p' f' ex => ?_
      · simp at hG; subst hG; exact y
      · simp at hG
        rcases hG with z | z
        · subst z; exact fun b y => .inr (y ▸ hxw)
        · subst z; exact fun b y => y.elim
      · refine ⟨T'.rep.non rfl, ?_⟩
        rcases ex 0 _ rfl rfl with z | ⟨u, G, eu, T3, f3⟩
        · cases z
        · cases eu
          exact k _ w' G E' T3 p' f3
    · cases he
  · cases he
def mMakeV {Γ : Gam} (c : Nat) (g : Fn Γ) (as : List (AE Γ)) : Ev Γ := fun env =>
  match evAs as env with
  | none => none
  | some (xs, env1) => match peeks xs env1 with
    | none => none
    | some ss => match allDat ss with
      | none => none
      | some ds => (mkV c g ds).map fun s => (s, env1)
theorem makeV_runL {C : Addr} {ns : List Str} {r : Sl Γ} {Q : VK} {E0 : XK} (hK : Gd Γ X) (hC : Γ.cls c = some (C, ns)) (ha : SdL Γ X es as) (he : mMakeV c g as env = some (r, env')) (E : ER Γ w σ env)
    (k : ∀ v w' Fr, ER Γ w' σ env' → TR Γ w' v r Fr → Step w w' → Fresh w Fr → Q v w'.H) :
    wL X es σ w.H fun vs H1 => ∀ x dx, H1 x = none → H1 dx = none → dx ≠ x → spV Γ 2 g (.ref x :: vs) (upd (upd H1 dx (.own x)) x (.ins C dx [])) (fun v H2 => v = .non ∧ Q (.ref x) H2) E0 := by
  unfold mMakeV at he
  cases g1 : evAs as env with
  | none => simp only [g1] at he; cases he
  | some q =>
    obtain ⟨xs, env1⟩ := q
    simp only [g1] at he
    cases g2 : peeks xs env1 with
    | none => simp only [g2] at he; cases he
    | some ss =>
      simp only [g2] at he
      cases g3 : allDat ss with
      | none => simp only [g3] at he; cases he
      | some ds =>
        simp only [g3] at he
        cases g4 : mkV c g ds with
        | none => rw [g4] at he; cases he
        | some s =>
          rw [g4] at he
          cases he
          exact sdl_run hK ha g1 E fun vs w1 Frs E1 A1 p1 f1 => makeV_run hC E p1 E1 (allDat_ok (A1.peeks E1 g2) g3) g4 k
theorem sd_makeV {p : Pos} (h : MkV Γ X c x g) (hg : Gl X x) (ha : SdL Γ X (e :: es) as) (hdb : (x == ("__debug__" : Str)) = false := by decide) (hpl : (backTo pos (starEach es X.env)).any (·.1) = false := by rfl) : SdE Γ X (.Call (.Name x p) (e :: es) [] pos) (mMakeV c g as) := by
  obtain ⟨C, ns, k0, f, h1, h2, h3, h4, h5⟩ := h
  intro hK σ env r env' w Q he E k
  exact wE.of (StX.pe_makeR (E := E0) h2 h3 h4 hg h5 pass0 (pa_wL ha.ns) hdb (ha.ns e List.mem_cons_self es) hpl) (makeV_runL hK h1 ha he E k)
theorem sd_makeV0 {p : Pos} (h : MkV Γ X c x g) (hg : Gl X x) (hdb : (x == ("__debug__" : Str)) = false := by decide) : SdE Γ X (.Call (.Name x p) [] [] pos) (mMakeV c g []) := by
  obtain ⟨C, ns, k0, f, h1, h2, h3, h4, h5⟩ := h
  intro hK σ env r env' w Q he E k
  have q := makeV_runL (E0 := E0) hK h1 .nil he E k
  intro pins s I
  refine wpAny_Call_Name_kw (ld_glob I hg h5 ?_ hdb)
  exact PySem.W.callWith_K0 I.kIn h2.kp (StX.run_makeR (us := []) h2 h3 h4 pass0 I .nil q)
def mMakeS {Γ : Gam} (c : Nat) (g : Fn Γ) (a : AE Γ) : Ev Γ := fun env =>
  match evA a env with
  | none => none
  | some (x, env1) => match peek x env1 with
    | some (.lst ds) => (mkV c g ds).map fun s => (s, env1)
    | _ => none
theorem sd_makeS {p sp : Pos} {ae : AE Γ} (h : MkV Γ X c x g) (hg : Gl X x) (ha : SdA Γ X e ae) (hdb : (x == ("__debug__" : Str)) = false := by decide) (hst : starEach [.Starred e sp] X.env = [(true, eval e X.env)] := by rfl) : SdE Γ X (.Call (.Name x p) [.Starred e sp] [] pos) (mMakeS c g ae) := by
  obtain ⟨C, ns, k0, f, h1, h2, h3, h4, h5⟩ := h
  intro hK σ env r env' w Q he E k
  unfold mMakeS at he
  cases g1 : evA ae env with
  | none => simp only [g1] at he; cases he
  | some q =>
    obtain ⟨y, env1⟩ := q
    simp only [g1] at he
    split at he
    · rename_i ds g2
      cases g4 : mkV c g ds with
      | none => rw [g4] at he; cases he
      | some s =>
        rw [g4] at he
        cases he
        have q : wE X e σ w.H fun v H1 => ∃ a xs, v = V.ref a ∧ SqL X.K H1 a xs ∧ ∀ x dx, H1 x = none → H1 dx = none → dx ≠ x → spV Γ 2 g (.ref x :: xs) (upd (upd H1 dx (.own x)) x (.ins C dx [])) (fun v H2 => v = .non ∧ Q (.ref x) H2) E0 := by
          refine sda_run ha hK g1 E fun v w1 Fr E1 A1 p1 f1 => ?_
          obtain ⟨G1, a, vs, rfl, q1, q2, q3⟩ := A1.peek E1 g2
          exact ⟨a, vs, rfl, .inl (.inl q1), makeV_run h1 E p1 E1 q2 g4 k⟩
        intro pins s I
        refine wpAny_Call_Name_kw (ld_glob I hg h5 ?_ hdb)
        refine PySem.W.callWith_S (h₀ := X.base) I.ok.mod.kin h2.kp (thn (q pins s I) fun v s1 ⟨y, H1, I1, ry, a, xs, ey, hxs, q⟩ => ?_) hst
        subst ey
        obtain rfl : v = Value.ref a := ry
        exact StX.star_any I1 (.inr hxs) fun us s2 I2 rv => ⟨I2.kIn, StX.run_makeR h2 h3 h4 pass0 I2 rv q⟩
    · cases he

/-! ### own operators -/
def fitO {Γ : Gam} (c : Nat) : Sl Γ → Bool
  | .ins c' _ => c' == c
  | .lst _ => true
  | .dat (.lst _) => true
  | _ => false
def fitI {Γ : Gam} (c : Nat) : Sl Γ → Bool
  | .ins c' _ => c' == c
  | _ => false
def mOwn {Γ : Gam} (fit : Sl Γ → Bool) (c : Nat) (g : Fn Γ) (a b : AE Γ) : Ev Γ := fun env =>
  match evAs [a, b] env with
  | none => none
  | some (xs, env1) => match peeks xs env1 with
    | some [.ins c' _, s] => if (c' == c) = true ∧ fit s = true then mGo 2 g xs env1 else none
    | _ => none
/-- the second operand's type -/
def tyO (H : Hp) (C : Addr) (y : V) : Prop := ∃ b, y = .ref b ∧ ((∃ dx fs, H b = some (.ins C dx fs)) ∨ ∃ vs, H b = some (.lst vs))
def rOwn2 (C : Addr) (sp : Sp) (E : XK) : R2 := fun x y H Q => ∃ a dx fs b, x = .ref a ∧ y = .ref b ∧ H a = some (.ins C dx fs) ∧ (∃ dy fy, H b = some (.ins C dy fy)) ∧ sp [x, y] H Q E
def rOwnE (C : Addr) (sp : Sp) (E : XK) : R2 := fun x y H Q => ∃ a dx fs, x = .ref a ∧ tyO H C y ∧ H a = some (.ins C dx fs) ∧ sp [x, y] H Q E
theorem own_run {fit : Sl Γ → Bool} {fa fb : AE Γ} {C : Addr} {ns : List Str} {r : Sl Γ} {Q : VK} {E0 : XK} (hK : Gd Γ X) (hC : Γ.cls c = some (C, ns)) (ha : SdL Γ X [a, b] [fa, fb]) (he : mOwn fit c g fa fb env = some (r, env')) (E : ER Γ w σ env)
    (k : ∀ v w' Fr, ER Γ w' σ env' → TR Γ w' v r Fr → Step w w' → Fresh w Fr → Q v w'.H) :
    wE X a σ w.H fun x H1 => wE X b σ H1 fun y H2 => ∃ ad dx fs M G s, x = .ref ad ∧ H2 ad = some (.ins C dx fs) ∧ fit s = true ∧ SR Γ M H2 y s G ∧ spG Γ 2 g [x, y] H2 Q E0 := by
  unfold mOwn at he
  cases g1 : evAs [fa, fb] env with
  | none => simp only [g1] at he; cases he
  | some q =>
    obtain ⟨xs, env1⟩ := q
    simp only [g1] at he
    split at he
    · rename_i c' fs s2 g2
      split at he
      · rename_i hc
        obtain ⟨hc1, hc2⟩ := hc
        have ec : c' = c := by simpa using hc1
        subst ec
        have q : wL X [a, b] σ w.H fun vs H2 => ∃ x y ad dx fs M G s, vs = [x, y] ∧ x = .ref ad ∧ H2 ad = some (.ins C dx fs) ∧ fit s = true ∧ SR Γ M H2 y s G ∧ spG Γ 2 g [x, y] H2 Q E0 := by
          refine sdl_run hK ha g1 E fun vs w1 Frs E1 A1 p1 f1 => ?_
          have S := A1.peeks E1 g2
          cases S with
          | cons r1 S =>
            cases S with
            | cons r2 S =>
              cases S
              obtain ⟨ad, C', ns', dx, fs', G, rfl, hC', hA, _⟩ := r1
              rw [hC] at hC'
              cases hC'
              exact ⟨_, _, ad, dx, fs', w1.M, _, s2, rfl, rfl, hA, hc2, r2, go_run E p1 E1 A1 f1 he k⟩
        intro pins s I
        refine thn (q pins s I) fun u s1 ⟨x, H1, I1, rx, q1⟩ => ⟨x, H1, I1, rx, ?_⟩
        intro pins s I
        refine thn (q1 pins s I) fun u s1 ⟨y, H2, I2, ry, q2⟩ => ⟨y, H2, I2, ry, ?_⟩
        obtain ⟨x', y', ad, dx, fs, M, G, s, ev, h⟩ := q2
        cases ev
        exact ⟨ad, dx, fs, M, G, s, h⟩
      · cases he
    · cases he
structure Own (Γ : Gam) (X : Cx) (c : Nat) (m : Str) (g : Fn Γ) : Prop where
  ex : ∃ C ns k f fd ps, Γ.cls c = some (C, ns) ∧ PySem.W.findIn X.K (.ref C) m = some (some (.ref f)) ∧ PySem.W.isFn X.K (.ref f) = true ∧ PySem.W.selfFirst X.K C = true ∧ PySem.W.notFirst X.K C (.type "list") = true ∧ FnOk X.prog X.w X.K X.mg X.base CX0 k f fd ps (spG Γ 2 g) ∧ Room k X.A ∧ Binds X.K fd ps []
theorem sd_ownOr {fa fb : AE Γ} (h : Own Γ X c "__or__" g) (ha : SdL Γ X [a, b] [fa, fb]) : SdE Γ X (.BinOp a .BitOr b pos) (mOwn (fitI c) c g fa fb) := by
  obtain ⟨C, ns, k0, f, fd, ps, h1, h2, h3, h4, h5, h6, h7, h8⟩ := h
  intro hK σ env r env' w Q he E k
  have hop : OpR X (binaryOp .BitOr) (rOwn2 C (spG Γ 2 g) E0) := by
    intro pins s σ H x y v u Q I rx ry h
    obtain ⟨ad, dx, fs, bd, rfl, rfl, hA, ⟨dy, fy, hB⟩, q⟩ := h
    cases (show v = Value.ref ad from rx)
    cases (show u = Value.ref bd from ry)
    obtain ⟨mA, J, _⟩ := ins_get I.hok hA
    obtain ⟨mB, J', _⟩ := ins_get I.hok hB
    obtain ⟨od, J, _⟩ := J.look
    obtain ⟨od', J', _⟩ := J'.look
    obtain ⟨mm, hF⟩ := I.fr
    refine PySem.W.binop_K (op := .BitOr) hF I.ok.mod.kin J J'.type h4 h2 h3 ?_
    refine wpAny_mono (run_fn (us := [.ref ad, .ref bd]) (vs := [.ref ad, .ref bd]) h6 h7 h8 .nil pass0 I (.cons rfl (.cons rfl .nil)) (by simpa using q)) (fun z s' hz => ?_) fun _ _ x => x
    obtain ⟨z', H', I', rz, qz⟩ := hz
    exact SlX.cmpback rz ⟨z', H', I', rz, qz⟩
  refine wE.of (pe_op hop pe_wE pe_wE) ?_
  have q := own_run (E0 := E0) hK h1 ha he E k
  intro pins s I
  refine thn (q pins s I) fun u s1 ⟨x, H1, I1, rx, q1⟩ => ⟨x, H1, I1, rx, ?_⟩
  intro pins s I
  refine thn (q1 pins s I) fun u s1 ⟨y, H2, I2, ry, ad, dx, fs, M, G, s, e1, e2, e3, e4, e5⟩ => ⟨y, H2, I2, ry, ?_⟩
  cases s with
  | ins c' fs' =>
    have ec : c' = c := by simpa [fitI] using e3
    subst ec
    obtain ⟨bd, C', ns', dy, fy, G, rfl, hC', hB, _⟩ := e4
    rw [h1] at hC'
    cases hC'
    exact ⟨ad, dx, fs, bd, e1, rfl, e2, ⟨dy, fy, hB⟩, e5⟩
  | _ => cases e3
theorem op_ownE {C : Addr} {k : Nat} {f : Addr} {fd : FuncData} {ps : List Str} (h2 : PySem.W.findIn X.K (.ref C) "__eq__" = some (some (.ref f))) (h3 : PySem.W.isFn X.K (.ref f) = true) (h5 : PySem.W.notFirst X.K C (.type "list") = true) (h6 : FnOk X.prog X.w X.K X.mg X.base CX0 k f fd ps (spG Γ 2 g)) (h7 : Room k X.A) (h8 : Binds X.K fd ps []) :
    OpR X (compareOp .Eq) (rOwnE C (spG Γ 2 g) E0) := by
  intro pins s σ H x y v u Q I rx ry h
  obtain ⟨ad, dx, fs, rfl, ⟨bd, rfl, hB⟩, hA, q⟩ := h
  cases (show v = Value.ref ad from rx)
  cases (show u = Value.ref bd from ry)
  obtain ⟨mA, J, _⟩ := ins_get I.hok hA
  obtain ⟨od, J, _⟩ := J.look
  obtain ⟨mm, hF⟩ := I.fr
  have fin : wpAny (model X.prog X.w) X.A (call (.ref f) [.ref ad, .ref bd]) (PySem.W.CmpBack (EP X pins σ Q)) X.xe s := by
    refine wpAny_mono (run_fn (us := [.ref ad, .ref bd]) (vs := [.ref ad, .ref bd]) h6 h7 h8 .nil pass0 I (.cons rfl (.cons rfl .nil)) (by simpa using q)) (fun z s' hz => ?_) fun _ _ x => x
    obtain ⟨z', H', I', rz, qz⟩ := hz
    exact SlX.cmpback rz ⟨z', H', I', rz, qz⟩
  show wpAny (model X.prog X.w) X.A (richCompare .Eq _ _) _ _ _
  rcases hB with ⟨dy, fy, hB⟩ | ⟨vs, hB⟩
  · obtain ⟨mB, J', _⟩ := ins_get I.hok hB
    obtain ⟨od', J', _⟩ := J'.look
    exact PySem.W.cmp_K (op := .Eq) (tb := .ref C) h7.units0 hF I.ok.mod.kin J J'.type (by simp [PySem.W.notFirst]) h2 h3 fin
  · obtain ⟨its, r, pl, hz⟩ := I.list (a := bd) (.inl (.inl hB))
    obtain ⟨o, ho, hc, n, hd⟩ := pl.isList
    have hT : s.TypeIs (.ref bd) "list" := ⟨o, ho, hc⟩
    exact PySem.W.cmp_K (op := .Eq) (tb := .type "list") h7.units0 hF I.ok.mod.kin J (hc ▸ (PySem.W.Looks.ld ho).andThen .now) h5 h2 h3 fin
theorem own_eq {fa fb : AE Γ} {C : Addr} {ns : List Str} {r : Sl Γ} {Q : VK} (hK : Gd Γ X) (h1 : Γ.cls c = some (C, ns)) (ha : SdL Γ X [a, b] [fa, fb]) (he : mOwn (fitO c) c g fa fb env = some (r, env')) (E : ER Γ w σ env)
    (k : ∀ v w' Fr, ER Γ w' σ env' → TR Γ w' v r Fr → Step w w' → Fresh w Fr → Q v w'.H) : wE X a σ w.H fun x H1 => wE X b σ H1 fun y H2 => rOwnE C (spG Γ 2 g) E0 x y H2 Q := by
  have q := own_run (E0 := E0) hK h1 ha he E k
  intro pins s I
  refine thn (q pins s I) fun u s1 ⟨x, H1, I1, rx, q1⟩ => ⟨x, H1, I1, rx, ?_⟩
  intro pins s I
  refine thn (q1 pins s I) fun u s1 ⟨y, H2, I2, ry, ad, dx, fs, M, G, s, e1, e2, e3, e4, e5⟩ => ⟨y, H2, I2, ry, ?_⟩
  cases s with
  | ins c' fs' =>
    have ec : c' = c := by simpa [fitO] using e3
    subst ec
    obtain ⟨bd, C', ns', dy, fy, G, rfl, hC', hB, _⟩ := e4
    rw [h1] at hC'
    cases hC'
    exact ⟨ad, dx, fs, e1, ⟨bd, rfl, .inl ⟨dy, fy, hB⟩⟩, e2, e5⟩
  | lst ds =>
    obtain ⟨bd, vs, rfl, hB, _⟩ := e4
    exact ⟨ad, dx, fs, e1, ⟨bd, rfl, .inr ⟨vs, hB⟩⟩, e2, e5⟩
  | dat d =>
    cases d with
    | lst ds =>
      obtain ⟨e4, _⟩ := e4
      cases e4 with
      | lst n hB r => exact ⟨ad, dx, fs, e1, ⟨_, rfl, .inr ⟨_, hB⟩⟩, e2, e5⟩
    | _ => cases e3
  | _ => cases e3
theorem sd_ownEq {fa fb : AE Γ} (h : Own Γ X c "__eq__" g) (ha : SdL Γ X [a, b] [fa, fb]) : SdE Γ X (.Compare a [.Eq] [b] pos) (mOwn (fitO c) c g fa fb) := by
  obtain ⟨C, ns, k0, f, fd, ps, h1, h2, h3, h4, h5, h6, h7, h8⟩ := h
  intro hK σ env r env' w Q he E k
  exact wE.of (pe_cmpR (op_ownE h2 h3 h5 h6 h7 h8) pe_wE pe_wE (nobehind _ (by decide) (by decide))) (own_eq hK h1 ha he E k)
theorem sdt_ownEq {fa fb : AE Γ} (h : Own Γ X c "__eq__" g) (ha : SdL Γ X [a, b] [fa, fb]) : SdT Γ X (.Compare a [.Eq] [b] pos) (toT (mOwn (fitO c) c g fa fb)) := by
  obtain ⟨C, ns, k0, f, fd, ps, h1, h2, h3, h4, h5, h6, h7, h8⟩ := h
  intro hK σ env r env' w Q he E k
  exact wT.of (pt_cmpR (op_ownE h2 h3 h5 h6 h7 h8) pe_wE pe_wE (nobehind _ (by decide) (by decide))) (own_eq (Q := fun x H1 => ∃ c, x = V.bl c ∧ Q c H1) hK h1 ha (toT_some he) E fun v w' Fr E' T p' f => ⟨r, T.bl, k w' E' p'⟩)
end
end G

/-! G20: comprehensions over the items of a dict that an attribute holds -/
namespace G
open PySem L2
def kD : Key → D
  | .inl i => .int i
  | .inr x => .str x
def itemD (q : Key × D) : D := .tup [kD q.1, q.2]
theorem kD_dat {Γ : Gam} {M : Addr → Prop} {H : Hp} : ∀ k, Dat Γ M H (kV k) (kD k)
  | .inl _ => .int _
  | .inr _ => .str _
theorem KDats.get {Γ : Gam} {M : Addr → Prop} {H : Hp} : ∀ {vs : List (Key × V)} {ds : List (Key × D)} {j : Nat} {q : Key × D}, KDats Γ M H vs ds → ds[j]? = some q → ∃ v, vs[j]? = some (q.1, v) ∧ Dat Γ M H v q.2
  | _, _, _, _, .nil, e => by simp at e
  | _, _, 0, _, .cons h r, e => by simp at e; subst e; exact ⟨_, rfl, h⟩
  | _, _, j + 1, q, .cons h r, e => by
    obtain ⟨v, h1, h2⟩ := KDats.get (j := j) (q := q) r (by simpa using e)
    exact ⟨v, by simpa using h1, h2⟩
def mLcD {Γ : Gam} (i : Nat) (f : Str) (vs : List Nat) (t : Eg Γ) (tc : Et Γ) (fe : Ev Γ) : Ev Γ := fun env =>
  match env[i]? with
  | some (.ins c fs) => if Γ.has c f = true then
      match fs.lookup f with
      | some (.dic kvs) => match mLc (fun e => some (kvs.map itemD, e)) vs t tc fe (env.set i .none) with
        | some (r, env1) => match env1[i]? with
          | some .none => some (r, env1.set i (.ins c fs))
          | _ => none
        | none => none
      | _ => none
    else none
  | _ => none
section
variable {Γ : Gam} {X : Cx} {A : List Nat} {σ : St} {env env' : Env Γ} {w : Wd} {x f : Str} {npos fpos apos cpos tpos pos spos : Pos} {elts : List Expr} {kk i : Nat}
theorem lcD_core {elt : Expr} {scope : Scope} {ifs : List Expr} {tt : TT} {tc : Et Γ} {t : Eg Γ} {fe : Ev Γ} {vs : List Nat} {r : Sl Γ} {Q : VK} (hK : Gd Γ X) (hF : FldOk Γ f) (hN : X.N[i]? = some x) (hv : Vis X.env.scope x) (hd : (x == ("__debug__" : Str)) = false) (hcd : (x == ("__classdict__" : Str)) = false)
    (hb1 : attributeBase (.Name x npos) f X.env (eval (.Name x npos) X.env) = eval (.Name x npos) X.env) (hb2 : attributeBase (.Attribute (.Name x npos) f fpos) "items" X.env (eval (.Attribute (.Name x npos) f fpos) X.env) = eval (.Attribute (.Name x npos) f fpos) X.env) (hline : (apos.endLine == cpos.line) = true)
    (hg : AllB X scope fun Y => SdG Γ Y vs (.Tuple elts kk tpos) t) (hc : SdC Γ X scope ifs tt tc) (hf : AllB X scope fun Y => SdE Γ Y elt fe) (he : mLcD i f vs t tc fe env = some (r, env')) (E : ER Γ w σ env)
    (k : ∀ v w' Fr, ER Γ w' σ env' → TR Γ w' v r Fr → Step w w' → Fresh w Fr → Q v w'.H) :
    ∃ d u, w.H d = some u ∧ Mut (some u) ∧ ∀ od, tLc (wI X (.Tuple elts kk tpos) (.Call (.Attribute (.Attribute (.Name x npos) f fpos) "items" apos) [] [] cpos)) (bG X scope (.Tuple elts kk tpos)) tt (bE X scope elt) vs σ (upd w.H d (.frz od u)) fun v H' => H' d = some (.frz od u) ∧ Q v (upd H' d u) := by
  unfold mLcD at he
  split at he
  · rename_i c fs g0
    split at he
    · rename_i hh
      split at he
      · rename_i kvs g2
        split at he
        · rename_i r1 env1 g5
          split at he
          · rename_i g6
            cases he
            obtain ⟨v0, ev, rv⟩ := E.at (i := i) (s := .ins c fs) (by rw [g0]; rfl)
            obtain ⟨a, C, ns, dx, vsF, G, rfl, hC, ha, rs, nG, hFr⟩ := id rv
            obtain ⟨u, G1, e1, h1, h2⟩ := rs.look g2
            obtain ⟨d, us, rfl, hd', ru, nq⟩ := h1
            unfold Gam.has at hh
            rw [hC] at hh
            obtain ⟨c1, c2⟩ := hF c C ns hC hh
            have fd : w.F i d := (hFr d).mpr (.inr (h2 d ((nq d).mpr rfl)))
            have md : w.M d := E.sub i d fd
            have nad : a ≠ d := fun z => nG (z ▸ h2 d ((nq d).mpr rfl))
            refine ⟨d, .dK us, hd', trivial, fun od => ?_⟩
            obtain ⟨El, gol⟩ := (E.moved i).write (o := .frz od (.dK us)) md (fun j z => z.2 (E.dis j i d z.1 fd))
            have unl : ∀ j b, w.F i b → ¬ (w.F j b ∧ j ≠ i) := fun j b z q => q.2 (E.dis j i b q.1 z)
            have lkH : ∀ b, b ≠ d → upd w.H d (.frz od (.dK us)) b = w.H b := fun b nb => upd_ne nb
            have nn : ∀ b, upd w.H d (.frz od (.dK us)) b = none → w.H b = none := fun b y => by
              by_cases hb : b = d
              · rw [hb, upd_same] at y; cases y
              · rw [lkH b hb] at y; exact y
            have kp : ∀ b u, b ≠ d → w.H b = some u → upd w.H d (.frz od (.dK us)) b = some u := fun b u hb e => (lkH b hb).trans e
            refine lc_runX (w := ⟨w.M, fun j b => w.F j b ∧ j ≠ i, upd w.H d (.frz od (.dK us))⟩) hK (fun ds env1' g R kR => ?_) hg hc hf g5 El fun v w2 Fr E2 T2 p2 f2 => ?_
            · cases g
              refine wI.of (pi_items (pe_fld (pe_var hN hv hd hcd) hb1) hb2 hline) ⟨_, ev, a, C, dx, vsF, .ref d, rfl, kp a _ nad ha, hK.k ▸ c1, hK.k ▸ c2, e1, d, od, us, rfl, upd_same, kR (Iti d od us) _ El (Step.refl _) ⟨fun w' p g dom j dd ej => ?_, fun w' p g => ?_⟩⟩
              · have hfr : w'.H d = some (.frz od (.dK us)) := p.keep d _ (fun j => unl j d fd) upd_same
                rw [List.getElem?_map] at ej
                cases q : kvs[j]? with
                | none => rw [q] at ej; cases ej
                | some kv =>
                  rw [q] at ej
                  cases ej
                  obtain ⟨v1, ev1, dv1⟩ := ru.get q
                  refine ⟨⟨hfr, (List.getElem?_eq_some_iff.mp ev1).1⟩, fun y H2 hy => ?_⟩
                  obtain ⟨T, k1, v2, ek, rfl, hT, rfl⟩ := hy
                  rw [ev1] at ek
                  cases ek
                  exact ⟨upd_keep hT, .tup (.inl ⟨fun m => dom T m hT, .inl upd_same⟩) (.cons (kD_dat _) (.cons (((dv1.go gol).go g).go ⟨fun a' u' _ e' => upd_keep hT a' u' e', fun _ n' _ => n'⟩) .nil))⟩
              · have hfr : w'.H d = some (.frz od (.dK us)) := p.keep d _ (fun j => unl j d fd) upd_same
                exact ⟨hfr, by rw [List.length_map, ru.length]; exact Nat.le_refl _⟩
            · have hfr : w2.H d = some (.frz od (.dK us)) := p2.keep d _ (fun j => unl j d fd) upd_same
              refine ⟨hfr, ?_⟩
              have md2 : w2.M d := p2.mu d (fun j => unl j d fd) md
              have od2 : ∀ j, ¬ w2.F j d := p2.off (fun j => unl j d fd) (fun z => by have z' : upd w.H d (.frz od (.dK us)) d = none := z; rw [upd_same] at z'; cases z')
              obtain ⟨E3, go3⟩ := E2.write (o := .dK us) md2 od2
              have hFi2 : ∀ j b, w.F i b → ¬ w2.F j b := fun j b z q => by
                rcases p2.own j b q with ⟨l, y⟩ | y
                · exact unl l b z y
                · exact E.dom b (E.sub i b z) (nn b y)
              have g03 : Go w.M w.H w2.M (upd w2.H d (.dK us)) := ⟨fun b u nb e => by
                  have hb : b ≠ d := fun z => nb (z ▸ md)
                  rw [upd_ne hb]
                  exact p2.keep b u (fun j z => nb (E.sub j b z.1)) (kp b u hb e), fun b nb e m => by
                  rcases p2.src b m with z | z
                  · exact nb z
                  · exact e (nn b z)⟩
              have T3 : TR Γ ⟨w2.M, w2.F, upd w2.H d (.dK us)⟩ (.ref a) (.ins c fs) (w.F i) := ⟨rv.go g03 fun b u fb e => by
                  by_cases hb : b = d
                  · show upd w2.H d (.dK us) b = some u
                    rw [hb, upd_same]; rw [hb, hd'] at e; exact e
                  · show upd w2.H d (.dK us) b = some u
                    rw [upd_ne hb]
                    exact p2.keep b u (fun j => unl j b fb) (kp b u hb e), fun b fb => p2.mu b (fun j => unl j b fb) (E.sub i b fb), fun b j fb => hFi2 j b fb⟩
              have il : i < env1.length := (List.getElem?_eq_some_iff.mp g6).1
              have E4 := E3.set T3 (i := i) il
              rw [List.set_self' ev] at E4
              have frw : ∀ b, Fr b → ¬ w.F i b := fun b z q => by
                rcases f2 b z with ⟨j, y⟩ | y
                · exact unl j b q y
                · exact E.dom b (E.sub i b q) (nn b y)
              refine k v _ Fr E4 ⟨T2.rep.go go3 fun b u z e => ?_, T2.sub, fun b j z q => ?_⟩ ⟨fun b u nb e => ?_, fun b nb m => ?_, fun b m => ?_, fun j b q => ?_, fun b hb => ?_⟩ fun b z => ?_
              · show upd w2.H d (.dK us) b = some u
                rw [upd_ne (fun (y : b = d) => frw b z (y ▸ fd))]; exact e
              · have q' : (if j = i then w.F i b else w2.F j b) := q
                split at q'
                · exact frw b z q'
                · exact T2.off b j z q'
              · have hb : b ≠ d := fun z => nb i (z ▸ fd)
                show upd w2.H d (.dK us) b = some u
                rw [upd_ne hb]
                exact p2.keep b u (fun j z => nb j z.1) (kp b u hb e)
              · exact p2.mu b (fun j z => nb j z.1) m
              · rcases p2.src b m with z | z
                · exact .inl z
                · exact .inr (nn b z)
              · have q' : (if j = i then w.F i b else w2.F j b) := q
                split at q'
                · exact .inl ⟨i, q'⟩
                · rcases p2.own j b q' with ⟨l, y⟩ | y
                  · exact .inl ⟨l, y.1⟩
                  · exact .inr (nn b y)
              · show upd w2.H d (.dK us) b ≠ none
                by_cases hb' : b = d
                · rw [hb', upd_same]; simp
                · rw [upd_ne hb']
                  exact p2.live b (fun y => hb (nn b y))
              · rcases f2 b z with ⟨j, y⟩ | y
                · exact .inl ⟨j, y.1⟩
                · exact .inr (nn b y)
          · cases he
        · cases he
      · cases he
    · cases he
  · cases he
theorem sd_lcD {elt : Expr} {scope : Scope} {own : List (Str × Nat)} {ifs : List Expr} {tt : TT} {tc : Et Γ} {t : Eg Γ} {fe : Ev Γ} (i : Nat) (ok : BlkOk X.N X.env.scope scope own) (hF : FldOk Γ f) (hN : X.N[i]? = some x) (hv : Vis X.env.scope x)
    (hg : AllB X scope fun Y => SdG Γ Y (own.map (·.2)) (.Tuple elts kk tpos) t) (hc : SdC Γ X scope ifs tt tc) (hf : AllB X scope fun Y => SdE Γ Y elt fe) (hd : (x == ("__debug__" : Str)) = false := by decide) (hcd : (x == ("__classdict__" : Str)) = false := by decide)
    (hb1 : attributeBase (.Name x npos) f X.env (eval (.Name x npos) X.env) = eval (.Name x npos) X.env := by rfl) (hb2 : attributeBase (.Attribute (.Name x npos) f fpos) "items" X.env (eval (.Attribute (.Name x npos) f fpos) X.env) = eval (.Attribute (.Name x npos) f fpos) X.env := by rfl) (hline : (apos.endLine == cpos.line) = true := by rfl)
    (hs : ∀ x', foldedSetIterable (.Call (.Attribute (.Attribute (.Name x npos) f fpos) "items" apos) [] [] cpos) X.env x' = pure x' := by intro _; rfl) :
    SdE Γ X (.ListComp elt [⟨.Tuple elts kk tpos, .Call (.Attribute (.Attribute (.Name x npos) f fpos) "items" apos) [] [] cpos, ifs, 0⟩] scope pos) (mLcD i f (own.map (·.2)) t tc fe) :=
  fun hK σ env r env' w Q he E k => wE.of (pe_lock (pe_lc (te := bE X scope elt) (g := bG X scope (.Tuple elts kk tpos)) hK.calm hK.nd pi_wI ok (fun s H C cl fp => ⟨fun pins s' σ H' v u Q I r h => h s H C cl fp u pins s' r I⟩) hc.pts (fun s H C cl fp => ⟨fun pins s' σ H' Q I h => h s H C cl fp pins s' I⟩) hs)) (lcD_core hK hF hN hv hd hcd hb1 hb2 hline hg hc hf he E k)
theorem sds_setLcD {elt : Expr} {scope : Scope} {own : List (Str × Nat)} {ifs : List Expr} {tt : TT} {tc : Et Γ} {t : Eg Γ} {fe : Ev Γ} (l : Nat) {y : Str} {py : Pos} (i : Nat) (hA : l ∈ A) (hy : X.N[l]? = some y) (hyl : X.env.scope.names.lookup y = some .local)
    (hsw : swapsWith (.ListComp elt [⟨.Tuple elts kk tpos, .Call (.Attribute (.Attribute (.Name x npos) f fpos) "items" apos) [] [] cpos, ifs, 0⟩] scope pos) (some (.Name y py)) spos.line X.env = pure true) (ok : BlkOk X.N X.env.scope scope own) (hF : FldOk Γ f) (hN : X.N[i]? = some x) (hv : Vis X.env.scope x)
    (hg : AllB X scope fun Y => SdG Γ Y (own.map (·.2)) (.Tuple elts kk tpos) t) (hc : SdC Γ X scope ifs tt tc) (hf : AllB X scope fun Y => SdE Γ Y elt fe) (hd : (x == ("__debug__" : Str)) = false := by decide) (hcd : (x == ("__classdict__" : Str)) = false := by decide)
    (hb1 : attributeBase (.Name x npos) f X.env (eval (.Name x npos) X.env) = eval (.Name x npos) X.env := by rfl) (hb2 : attributeBase (.Attribute (.Name x npos) f fpos) "items" X.env (eval (.Attribute (.Name x npos) f fpos) X.env) = eval (.Attribute (.Name x npos) f fpos) X.env := by rfl) (hline : (apos.endLine == cpos.line) = true := by rfl)
    (hs : ∀ x', foldedSetIterable (.Call (.Attribute (.Attribute (.Name x npos) f fpos) "items" apos) [] [] cpos) X.env x' = pure x' := by intro _; rfl) :
    SdS Γ X A (.Assign [.Name y py] (.ListComp elt [⟨.Tuple elts kk tpos, .Call (.Attribute (.Attribute (.Name x npos) f fpos) "items" apos) [] [] cpos, ifs, 0⟩] scope pos) spos) (mSet l (mLcD i f (own.map (·.2)) t tc fe)) := by
  intro hK σ env fl env' w D he E k
  refine wS.of (ps_lock (ps_setLc (te := bE X scope elt) (g := bG X scope (.Tuple elts kk tpos)) hK.calm hK.nd hy hyl hsw pi_wI ok (fun s H C cl fp => ⟨fun pins s' σ H' v u Q I r h => h s H C cl fp u pins s' r I⟩) hc.pts (fun s H C cl fp => ⟨fun pins s' σ H' Q I h => h s H C cl fp pins s' I⟩) hs)) ?_
  unfold mSet at he
  cases g1 : mLcD i f (own.map (·.2)) t tc fe env with
  | none => simp only [g1] at he; cases he
  | some q =>
    obtain ⟨s, env1⟩ := q
    simp only [g1] at he
    split at he
    · rename_i hl
      cases he
      exact lcD_core (Q := fun v H' => D.nx (σ.set l (some v)) H') hK hF hN hv hd hcd hb1 hb2 hline hg hc hf g1 E fun v w1 Fr E1 T1 p1 f1 => k _ ⟨w1.M, fun j a => if j = l then Fr a else w1.F j a, w1.H⟩ (E1.set T1 hl) (p1.set f1) (Agree.set hA)
    · cases he
end
end G

/-! G21: dicts compared, small tuples ordered, list(d), d.get(k, None), isinstance of an own class, a fresh list changed, a pair of names of which a cell is -/
namespace G
open PySem L2
def eqKV (ks ls : List (Key × D)) : Bool := ks.length == ls.length && ks.all fun q => match lookD ls q.1 with | some d => eqD q.2 d | none => false
def okKV (ks : List (Key × D)) : Bool := ks.all fun q => okD q.2
section
variable {Γ : Gam} {X : Cx} {A : List Nat} {σ : St} {env env' : Env Γ} {w : Wd} {a b e : Expr} {es : List Expr} {fa fb : AE Γ} {q1 q2 q : QE} {pos : Pos}
theorem lookD_ok {ls : List (Key × D)} {k : Key} {d : D} (h : lookD ls k = some d) (o : okKV ls = true) : okD d = true := by
  unfold lookD at h
  cases g : ls.find? fun kv => decide (kv.1 = k) with
  | none => rw [g] at h; cases h
  | some z =>
    rw [g] at h
    cases h
    exact List.all_eq_true.mp o z (List.mem_of_find?_eq_some g)
theorem hits_D {pins : List (Addr × Obj)} {s : Shared} {H : Hp} {M : Addr → Prop} (I : Inv X pins σ H s) (hK : Γ.K = X.K) (hu : X.A.in1.units + 64 < cLine) {ls : List (Key × V)} {vb : List (Key × Value)} {ld : List (Key × D)} (rb : KV ls vb) (db : KDats Γ M H ls ld) (ob : okKV ld = true) :
    ∀ {ks : List (Key × V)} {va : List (Key × Value)} {kd : List (Key × D)}, KV ks va → KDats Γ M H ks kd → okKV kd = true → PySem.W.KeqHits X.A.in1 s vb va (kd.all fun q => match lookD ld q.1 with | some d => eqD q.2 d | none => false) := by
  intro ks va kd ra
  unfold KV at ra
  induction ra generalizing kd with
  | nil => intro dk ok; cases dk; exact .nil
  | @cons p q ps qs h t ih =>
    intro dk ok
    cases dk with
    | @cons k v _ d ds hd dk =>
      obtain ⟨k', v'⟩ := q
      obtain ⟨h1, h2⟩ := h
      have h1' : k = k' := h1
      have h2' : RelV v v' := h2
      subst h1'
      have ok' : okD d = true ∧ okKV ds = true := by unfold okKV at ok ⊢; rw [List.all_cons, Bool.and_eq_true] at ok; exact ok
      rw [List.all_cons]
      rcases db.look (k := k) with ⟨e1, e2⟩ | ⟨d', u, e1, e2, hu'⟩
      · simp only [e1, Bool.false_and]
        have rr : RelO none (valueAt vb k) := by rw [← e2]; exact rb.val k
        exact .miss (RelO.none_of rr)
      · simp only [e1]
        have rr : RelO (some u) (valueAt vb k) := by rw [← e2]; exact rb.val k
        obtain ⟨y, hy, ry⟩ := rr.some_of
        obtain ⟨as, r1⟩ := Dp.reads I d.toPy v v' (hK ▸ hd.dp (SeqAt.canLay_of_shaped ok'.1)) h2'
        obtain ⟨bs, r2⟩ := Dp.reads I d'.toPy u y (hK ▸ hu'.dp (SeqAt.canLay_of_shaped (lookD_ok e1 ob))) ry
        exact .hit hy (PySem.W.keq_at r1 r2 ok'.1 (lookD_ok e1 ob) hu) (ih dk ok'.2)
def rDEq (Γ : Gam) (g : Bool → Bool) : R2 := fun x y H Q => ∃ M a b ks ls kd ld, x = .ref a ∧ y = .ref b ∧ H a = some (.dK ks) ∧ H b = some (.dK ls) ∧ KDats Γ M H ks kd ∧ KDats Γ M H ls ld ∧ okKV kd = true ∧ okKV ld = true ∧ Q (.bl (g (eqKV kd ld))) H
theorem Gd.in1u (g : Gd Γ X) : X.A.in1.units + 64 < cLine := by have := g.un; show X.A.units + 1 + 64 < cLine; omega
theorem Gd.un0 (g : Gd Γ X) : X.A.units < cLine := by have := g.un; omega
theorem op_deq (g : Gd Γ X) : OpR X (compareOp .Eq) (rDEq Γ id) := by
  intro pins s σ H x y v u Q I rx ry h
  obtain ⟨M, a, b, ks, ls, kd, ld, rfl, rfl, ea, eb, dk, dl, ok, ol, q⟩ := h
  obtain rfl : v = Value.ref a := rx
  obtain rfl : u = Value.ref b := ry
  obtain ⟨_, ya, va, ra, da⟩ := (show ObjOk X.prog X.w H s.heap a (.dK ks) from I.hok a _ ea)
  obtain ⟨_, yb, vb, rb, db⟩ := (show ObjOk X.prog X.w H s.heap b (.dK ls) from I.hok b _ eb)
  have l1 : va.length = kd.length := by rw [← dk.length]; exact (Paired.length ra).symm
  have l2 : vb.length = ld.length := by rw [← dl.length]; exact (Paired.length rb).symm
  refine PySem.W.keq_eq (knd := mixKind X.prog X.w) ya yb da db g.un0 (fun _ => hits_D I g.k g.in1u rb dl ol ra dk ok) (fin_bl I q ?_)
  rw [l1, l2]; rfl
theorem op_dne (g : Gd Γ X) : OpR X (compareOp .NotEq) (rDEq Γ not) := by
  intro pins s σ H x y v u Q I rx ry h
  obtain ⟨M, a, b, ks, ls, kd, ld, rfl, rfl, ea, eb, dk, dl, ok, ol, q⟩ := h
  obtain rfl : v = Value.ref a := rx
  obtain rfl : u = Value.ref b := ry
  obtain ⟨_, ya, va, ra, da⟩ := (show ObjOk X.prog X.w H s.heap a (.dK ks) from I.hok a _ ea)
  obtain ⟨_, yb, vb, rb, db⟩ := (show ObjOk X.prog X.w H s.heap b (.dK ls) from I.hok b _ eb)
  have l1 : va.length = kd.length := by rw [← dk.length]; exact (Paired.length ra).symm
  have l2 : vb.length = ld.length := by rw [← dl.length]; exact (Paired.length rb).symm
  refine PySem.W.keq_ne (knd := mixKind X.prog X.w) ya yb da db g.un0 (fun _ => hits_D I g.k g.in1u rb dl ol ra dk ok) (fin_bl I q ?_)
  rw [l1, l2]; rfl
def pDEqG {Γ : Gam} (g : Bool → Bool) (x y : Sl Γ) : Option (Sl Γ) :=
  match x, y with
  | .dic ks, .dic ls => if okKV ks && okKV ls then some (db (g (eqKV ks ls))) else none
  | _, _ => none
theorem pDEqG_ok {g : Bool → Bool} : Prim2 Γ (rDEq Γ g) (pDEqG g) := by
  intro M H x y sx sy s Gx Gy Q dom hp hx hy k
  unfold pDEqG at hp
  split at hp
  · rename_i ks ls
    split at hp
    · rename_i c
      cases hp
      rw [Bool.and_eq_true] at c
      obtain ⟨p, vs, rfl, hp, r⟩ := hx.dic
      obtain ⟨p', vs', rfl, hp', r'⟩ := hy.dic
      exact ⟨M, p, p', vs, vs', ks, ls, rfl, rfl, hp, hp', r, r', c.1, c.2, k.dat (.bl _)⟩
    · cases hp
  · cases hp
def pDEq {Γ : Gam} : Sl Γ → Sl Γ → Option (Sl Γ) := pDEqG id
def pDNe {Γ : Gam} : Sl Γ → Sl Γ → Option (Sl Γ) := pDEqG not
theorem c_deq : Cmp Γ X .Eq pDEq := ⟨_, fun g => op_deq g, pDEqG_ok⟩
theorem c_dne : Cmp Γ X .NotEq pDNe := ⟨_, fun g => op_dne g, pDEqG_ok⟩
/-- dicts at two places -/
theorem sd_deqQ (ha : SdQ Γ X a q1) (hb : SdQ Γ X b q2) : SdE Γ X (.Compare a [.Eq] [b] pos) (mQ2 pDEq q1 q2) :=
  fun hK σ env r env' w Q he E k => wE.of (pe_cmpR (op_deq hK) pe_wE pe_wE (nobehind _ (by decide) (by decide))) (runQ2 pDEqG_ok ha hb hK he E k)

/-! ### tuples of three, their items ints, texts, truths -/
def ltF : D → D → Option Bool
  | .int i, .int j => some (decide (i < j))
  | .str x, .str y => some (sLt x y)
  | .bl p, .bl q => some (!p && q)
  | _, _ => none
def leF : D → D → Option Bool
  | .int i, .int j => some (decide (i ≤ j))
  | .str x, .str y => some (!sLt y x)
  | .bl p, .bl q => some (!p || q)
  | _, _ => none
def pT3 {Γ : Gam} (f : D → D → Option Bool) (z : Bool) (x y : Sl Γ) : Option (Sl Γ) :=
  match x, y with
  | .dat (.tup [a1, a2, a3]), .dat (.tup [b1, b2, b3]) => match f a1 b1, f a2 b2, f a3 b3 with
    | some r1, some r2, some r3 => some (db (if eqD a1 b1 = true then if eqD a2 b2 = true then if eqD a3 b3 = true then z else r3 else r2 else r1))
    | _, _, _ => none
  | _, _ => none
theorem ltF_eq {A : Around} {s : Shared} {M : Addr → Prop} {H : Hp} {d e : D} {v w : V} {x y : Value} {r : Bool} (hr : ltF d e = some r) (h1 : Dat Γ M H v d) (h2 : Dat Γ M H w e) (r1 : RelV v x) (r2 : RelV w y) : SeqAt.EqAt A s x y (eqD d e) ∧ Ob.RcOp .Lt A s x y r := by
  cases d <;> cases e <;> first | (simp [ltF] at hr; done) | skip
  · rename_i p q
    cases h1; cases h2; cases hr; cases r1; cases r2
    exact ⟨by unfold eqD D.toPy PyData.eqv; exact SeqAt.EqAt.bool_bool _ _, fun _ _ _ _ h => PyProof.Rows.lt_bool (by cases p <;> cases q <;> exact h)⟩
  · cases h1; cases h2; cases hr
    obtain ⟨t, rfl⟩ := (show ∃ t, x = Value.int _ t from r1)
    obtain ⟨t', rfl⟩ := (show ∃ t, y = Value.int _ t from r2)
    exact ⟨by unfold eqD D.toPy PyData.eqv; exact SeqAt.EqAt.int_int _ _ _ _, Ob.RcOp.lt_int _ _ _ _⟩
  · cases h1; cases h2; cases hr
    obtain ⟨t, rfl⟩ := (show ∃ t, x = Value.str _ t from r1)
    obtain ⟨t', rfl⟩ := (show ∃ t, y = Value.str _ t from r2)
    exact ⟨by unfold eqD D.toPy PyData.eqv; exact SeqAt.EqAt.str_str _ _ _ _, fun _ _ _ _ h => PyProof.Rows.lt_str h⟩
theorem leF_eq {A : Around} {s : Shared} {M : Addr → Prop} {H : Hp} {d e : D} {v w : V} {x y : Value} {r : Bool} (hr : leF d e = some r) (h1 : Dat Γ M H v d) (h2 : Dat Γ M H w e) (r1 : RelV v x) (r2 : RelV w y) : SeqAt.EqAt A s x y (eqD d e) ∧ Ob.RcOp .LtE A s x y r := by
  cases d <;> cases e <;> first | (simp [leF] at hr; done) | skip
  · rename_i p q
    cases h1; cases h2; cases hr; cases r1; cases r2
    exact ⟨by unfold eqD D.toPy PyData.eqv; exact SeqAt.EqAt.bool_bool _ _, fun _ _ _ _ h => PyProof.Rows.le_bool (by cases p <;> cases q <;> exact h)⟩
  · cases h1; cases h2; cases hr
    obtain ⟨t, rfl⟩ := (show ∃ t, x = Value.int _ t from r1)
    obtain ⟨t', rfl⟩ := (show ∃ t, y = Value.int _ t from r2)
    exact ⟨by unfold eqD D.toPy PyData.eqv; exact SeqAt.EqAt.int_int _ _ _ _, Ob.RcOp.le_int _ _ _ _⟩
  · cases h1; cases h2; cases hr
    obtain ⟨t, rfl⟩ := (show ∃ t, x = Value.str _ t from r1)
    obtain ⟨t', rfl⟩ := (show ∃ t, y = Value.str _ t from r2)
    exact ⟨by unfold eqD D.toPy PyData.eqv; exact SeqAt.EqAt.str_str _ _ _ _, fun _ _ _ _ h => PySem.P.le_str (by unfold sLt at h; simpa using h)⟩
def rT3 (Γ : Gam) (f : D → D → Option Bool) (z : Bool) : R2 := fun x y H Q => ∃ M a b v1 v2 v3 u1 u2 u3 a1 a2 a3 b1 b2 b3 r1 r2 r3, x = .ref a ∧ y = .ref b ∧ SqT Γ.K H a [v1, v2, v3] ∧ SqT Γ.K H b [u1, u2, u3] ∧ Dat Γ M H v1 a1 ∧ Dat Γ M H v2 a2 ∧ Dat Γ M H v3 a3 ∧ Dat Γ M H u1 b1 ∧ Dat Γ M H u2 b2 ∧ Dat Γ M H u3 b3 ∧
  f a1 b1 = some r1 ∧ f a2 b2 = some r2 ∧ f a3 b3 = some r3 ∧ Q (.bl (if eqD a1 b1 = true then if eqD a2 b2 = true then if eqD a3 b3 = true then z else r3 else r2 else r1)) H
theorem pT3_ok {f : D → D → Option Bool} {z : Bool} : Prim2 Γ (rT3 Γ f z) (pT3 f z) := by
  intro M H x y sx sy s Gx Gy Q dom hp hx hy k
  unfold pT3 at hp
  split at hp
  · rename_i a1 a2 a3 b1 b2 b3
    split at hp
    · rename_i r1 r2 r3 g1 g2 g3
      cases hp
      obtain ⟨hx, _⟩ := hx
      obtain ⟨hy, _⟩ := hy
      cases hx with
      | tup ht r =>
        cases hy with
        | tup ht' r' =>
          cases r with
          | cons h1 r => cases r with
            | cons h2 r => cases r with
              | cons h3 r =>
                cases r
                cases r' with
                | cons h1' r' => cases r' with
                  | cons h2' r' => cases r' with
                    | cons h3' r' =>
                      cases r'
                      exact ⟨M, _, _, _, _, _, _, _, _, a1, a2, a3, b1, b2, b3, r1, r2, r3, rfl, rfl, ht.sq, ht'.sq, h1, h2, h3, h1', h2', h3', g1, g2, g3, k.dat (.bl _)⟩
    · cases hp
  · cases hp
theorem vals3 {v1 v2 v3 : V} {us : List Value} (r : Vals [v1, v2, v3] us) : ∃ x1 x2 x3, us = [x1, x2, x3] ∧ RelV v1 x1 ∧ RelV v2 x2 ∧ RelV v3 x3 := by
  cases r with
  | cons r1 r => cases r with
    | cons r2 r => cases r with
      | cons r3 r => cases r; exact ⟨_, _, _, rfl, r1, r2, r3⟩
theorem op_t3 {op : CmpOp} {f : D → D → Option Bool} {z : Bool} (g : Gd Γ X) (hop : ∀ x y, compareOp op x y = richCompare op x y) (hf : ∀ {A : Around} {s : Shared} {M : Addr → Prop} {H : Hp} {d e : D} {v w : V} {x y : Value} {r : Bool}, f d e = some r → Dat Γ M H v d → Dat Γ M H w e → RelV v x → RelV w y → SeqAt.EqAt A s x y (eqD d e) ∧ Ob.RcOp op A s x y r)
    (ht : ∀ {A : Around} {s : Shared} {l b : Addr} {i1 i2 : Array Value} {e r : Nat → Bool}, s.heap.IsTuple l i1 → s.heap.IsTuple b i2 → A.units < cLine → i1.size = 3 → i2.size = 3 → (∀ j (h1 : j < i1.size) (h2 : j < i2.size), SeqAt.EqAt A.in1 s i1[j] i2[j] (e j)) → (∀ j (h1 : j < i1.size) (h2 : j < i2.size), e j = false → Ob.RcOp op A.in1 s i1[j] i2[j] (r j)) → Ob.RcOp op A s (.ref l) (.ref b) (Ob.lexAt e r z 0 3)) : OpR X (compareOp op) (rT3 Γ f z) := by
  intro pins s σ H x y v u Q I rx ry h
  obtain ⟨M, a, b, v1, v2, v3, u1, u2, u3, a1, a2, a3, b1, b2, b3, r1, r2, r3, rfl, rfl, hA, hB, d1, d2, d3, e1, e2, e3, g1, g2, g3, q⟩ := h
  obtain rfl : v = Value.ref a := rx
  obtain rfl : u = Value.ref b := ry
  rw [g.k] at hA hB
  obtain ⟨its, ra, p1, _⟩ := I.tuple hA
  obtain ⟨its2, rb, p2, _⟩ := I.tuple hB
  obtain ⟨x1, x2, x3, rfl, m1, m2, m3⟩ := vals3 ra
  obtain ⟨y1, y2, y3, rfl, n1, n2, n3⟩ := vals3 rb
  have R := ht (A := X.A) (s := s) (e := fun j => match j with | 0 => eqD a1 b1 | 1 => eqD a2 b2 | _ => eqD a3 b3) (r := fun j => match j with | 0 => r1 | 1 => r2 | _ => r3) p1 p2 g.un0 rfl rfl (fun j h1 h2 => by
      match j, h1 with
      | 0, _ => exact (hf g1 d1 e1 m1 n1).1
      | 1, _ => exact (hf g2 d2 e2 m2 n2).1
      | 2, _ => exact (hf g3 d3 e3 m3 n3).1
      | n + 3, h => exact absurd h (by simp)) (fun j h1 h2 _ => by
      match j, h1 with
      | 0, _ => exact (hf g1 d1 e1 m1 n1).2
      | 1, _ => exact (hf g2 d2 e2 m2 n2).2
      | 2, _ => exact (hf g3 d3 e3 m3 n3).2
      | n + 3, h => exact absurd h (by simp))
  rw [hop]
  exact R X.prog X.w X.xe (EP X pins σ Q) ⟨.bl _, H, I, rfl, q⟩
def pTLt {Γ : Gam} : Sl Γ → Sl Γ → Option (Sl Γ) := pT3 ltF false
def pTLe {Γ : Gam} : Sl Γ → Sl Γ → Option (Sl Γ) := pT3 leF true
theorem op_tlt (g : Gd Γ X) : OpR X (compareOp .Lt) (rT3 Γ ltF false) := op_t3 g (fun _ _ => rfl) ltF_eq fun {A s l b i1 i2 e r} h1 h2 hu s1 s2 he hr => by
  have := Ob.RcOp.tuples_lt h1 h2 hu he hr
  rw [s1, s2] at this
  exact this
theorem op_tle (g : Gd Γ X) : OpR X (compareOp .LtE) (rT3 Γ leF true) := op_t3 g (fun _ _ => rfl) leF_eq fun {A s l b i1 i2 e r} h1 h2 hu s1 s2 he hr => by
  have := Ob.RcOp.tuples_le h1 h2 hu he hr
  rw [s1, s2] at this
  exact this
theorem c_tlt : Cmp Γ X .Lt pTLt := ⟨_, fun g => op_tlt g, pT3_ok⟩
theorem c_tle : Cmp Γ X .LtE pTLe := ⟨_, fun g => op_tle g, pT3_ok⟩

/-! ### list(d), d.get(k, None) -/
def pListD {Γ : Gam} (x : Sl Γ) : Option (Sl Γ) :=
  match x with
  | .dic kvs => some (.lst (kvs.map fun q => kD q.1))
  | _ => none
theorem keys_dats {M : Addr → Prop} {H : Hp} : ∀ {vs : List (Key × V)} {kvs : List (Key × D)}, KDats Γ M H vs kvs → Dats Γ M H (vs.map fun q => kV q.1) (kvs.map fun q => kD q.1)
  | _, _, .nil => .nil
  | _, _, .cons _ r => .cons (kD_dat _) (keys_dats r)
theorem pListD_ok : Prim1 Γ (fun x H Q => ∃ p kvs, x = V.ref p ∧ H p = some (.dK kvs) ∧ ∀ q, H q = none → Q (.ref q) (upd H q (.lst (kvs.map fun kv => kV kv.1)))) (pListD (Γ := Γ)) := by
  intro M H x sx s Gx Q dom hp hx k
  unfold pListD at hp
  split at hp
  · rename_i kvs
    cases hp
    obtain ⟨p, vs, rfl, hp, r⟩ := hx.dic
    exact ⟨p, vs, rfl, hp, fun q hq => k.lst (keys_dats r) hq⟩
  · cases hp
theorem sd_listD {p : Pos} (hg : Gl X "list") (hm : X.mg "list" = none) (ha : SdQ Γ X a q) (na : NS X a) : SdE Γ X (.Call (.Name "list" p) [a] [] pos) (mQ1 pListD q) := by
  intro hK σ env r env' w Q he E k
  refine wE.of (pe_callTy (x := "list") (call_list_dK hK.calm) hg hm (by decide +kernel) (pa_wL (es := [a]) fun e h => by rw [List.mem_singleton.mp h]; exact na) (by decide) (by decide) (na _) rfl) ?_
  have h := runQ1 pListD_ok ha hK he E k
  intro pins s I
  refine thn (h pins s I) fun u s1 ⟨x, H1, I1, rx, p, kvs, ex, hp, q⟩ => ⟨x, H1, I1, rx, p, kvs, by rw [ex], hp, q⟩
def pDGetN {Γ : Gam} (x y : Sl Γ) : Option (Sl Γ) :=
  match x, y with
  | .dic kvs, .dat kd => match keyOf kd with
    | some k => some (.dat ((lookD kvs k).getD .non))
    | none => none
  | _, _ => none
theorem sd_dgetN {apos cpos p3 : Pos} {j : Nat} (ha : SdQ Γ X a q1) (hb : SdQ Γ X b q2) (m : M2 X a "get" apos b (.Constant .none j p3) cpos) : SdE Γ X (.Call (.Attribute a "get" apos) [b, .Constant .none j p3] [] cpos) (mQ2 pDGetN q1 q2) := by
  intro hK σ env r env' w Q he E k
  refine wE.of (pe_dget2 hK.hu pe_wE pe_wE pe_non m) ?_
  unfold mQ2 at he
  split at he
  · rename_i s1 s2 g1 g2
    unfold pDGetN at he
    split at he
    · rename_i kvs kd
      split at he
      · rename_i kk g
        cases he
        refine ha hK σ env _ w _ g1 E fun v G rv _ => ?_
        obtain ⟨p, vs, rfl, hp', rr⟩ := rv.dic
        refine ⟨p, rfl, .inl ⟨vs, .inl hp'⟩, hb hK σ env _ w _ g2 E fun u G2 ru _ => ⟨valV vs kk, by rw [keyOf_dat ru.1 g]; exact DGet.k hp', ?_⟩⟩
        rcases rr.look (k := kk) with ⟨h1, h2⟩ | ⟨d, v, h1, h2, h3⟩
        · rw [h1] at k; rw [h2]
          exact (res_of E k).dat .non
        · rw [h1] at k; rw [h2]
          exact (res_of E k).dat h3
      · cases he
    · cases he
  · cases he

/-! ### isinstance(x, C), C an own class -/
structure IsC (Γ : Gam) (X : Cx) (c : Nat) (x : Str) : Prop where
  ex : ∃ C ns, Γ.cls c = some (C, ns) ∧ X.mg x = some (.ref C) ∧ Cls X.K C ∧ PySem.W.findIn X.K (.ref C) "__class__" = some (some (.builtin "object.__class__")) ∧ PySem.W.specialIn X.K (.builtin "object.__class__") "__get__" = some (some (.builtin "getset_descriptor.__get__")) ∧
    PySem.W.takesIn X.K (.builtin "object.__class__") = some true ∧ PySem.W.mroIn X.K C (.type "object") = some true ∧ PySem.W.kitOne X.K (.ref C) (.ref C) = some true ∧ PySem.W.kitOne X.K (.type "list") (.ref C) = some false
def pIsC {Γ : Gam} (c : Nat) (s : Sl Γ) : Option (Sl Γ) :=
  match s with
  | .ins c' _ => if c' = c then some (db true) else none
  | .lst _ => some (db false)
  | .dat (.lst _) => some (db false)
  | _ => none
theorem sd_isC {c : Nat} {x : Str} {p p2 : Pos} (h : IsC Γ X c x) (hg : Gl X "isinstance") (hm : X.mg "isinstance" = none) (hgT : Gl X x) (ha : SdA Γ X a fa) (na : NS X a) (hdT : (x == ("__debug__" : Str)) = false := by decide)
    (hs2 : ∀ es, starEach (.Name x p2 :: es) X.env = (false, eval (.Name x p2) X.env) :: starEach es X.env := by intro _; rfl) (hpl : (backTo pos (starEach [.Name x p2] X.env)).any (·.1) = false := by rfl) :
    SdE Γ X (.Call (.Name "isinstance" p) [a, .Name x p2] [] pos) (m1 (pIsC c) fa) := by
  obtain ⟨C, ns, h1, h2, h3, h4, h5, h6, h7, h8, h9⟩ := h
  intro hK σ env r env' w Q he E k
  refine wE.of (pe_callB (id := "isinstance") (x := "isinstance") call_isi hg hm PyProof.Rows.boot_isinstance (pa_cons pe_wE (pa_cons (pe_glob (v := .ref C) hgT h2 rfl hdT) pa_nil (hs2 [])) (na _)) (by decide) (by decide) (na _) hpl) ?_
  refine run1 (r := fun x H Q => rIsi X.K [x, .ref C] H Q) ?_ ha hK he E k
  intro M H x sx s Gx Q dom hp hx k
  unfold pIsC at hp
  split at hp
  · rename_i c' fs
    split at hp
    · rename_i ec
      subst ec
      cases hp
      obtain ⟨ad, C', ns', dx, vs, G, rfl, hC, hA, _⟩ := hx
      rw [h1] at hC
      cases hC
      exact ⟨_, .ref C, .ref C, .ref C, true, rfl, .own C, .base (.ins hA h3 h4 h5 h6 h7), h8, k.dat (.bl _)⟩
    · cases hp
  · cases hp
    obtain ⟨p, vs, rfl, hp, _⟩ := hx
    exact ⟨_, .ref C, .type "list", .ref C, false, rfl, .own C, .base (.lst hp), h9, k.dat (.bl _)⟩
  · cases hp
    obtain ⟨hx, _⟩ := hx
    cases hx with
    | lst n hp r => exact ⟨_, .ref C, .type "list", .ref C, false, rfl, .own C, .base (.lst hp), h9, k.dat (.bl _)⟩
  · cases hp

/-! ### a fresh list changed: e.append(..) -/
def mMutT {Γ : Gam} (f : Ev Γ) (u : List D → List (Sl Γ) → Option (D × List D)) (as : List (AE Γ)) : Ev Γ := fun env =>
  match f env with
  | some (.lst ds, env1) => match evAs as env1 with
    | none => none
    | some (xs, env2) => match peeks xs env2 with
      | some ss => (u ds ss).map fun q => (.dat q.1, env2)
      | none => none
  | _ => none
theorem sd_mutT {o : Expr} {fo : Ev Γ} {as : List (AE Γ)} {name : Str} {id : String} {apos cpos : Pos} {r : V → List V → Hp → VK → Prop} {u : List D → List (Sl Γ) → Option (D × List D)} (slot : Slot "list" name id) (hty : typeOf (.builtin id) = pure (.type "method_descriptor")) (rule : MtR X id r) (hu : MutOk Γ r u) (ho : SdE Γ X o fo) (ha : SdL Γ X (e :: es) as)
    (hbase : attributeBase o name X.env (eval o X.env) = eval o X.env := by rfl)
    (hfew : ((backTo cpos (starEach (e :: es) X.env)).all (fun x => !x.1) && (backToKw cpos (keywordEach [] X.env)).all (fun x => x.1.isSome) && decide ((e :: es).length + ([] : List Keyword).length + (if ([] : List Keyword).isEmpty then 0 else 1) < 30)) = true := by rfl)
    (hline : (apos.endLine == cpos.line) = true := by rfl) (hplain : (backTo cpos (starEach es X.env)).any (·.1) = false := by rfl) :
    SdE Γ X (.Call (.Attribute o name apos) (e :: es) [] cpos) (mMutT fo u as) := by
  intro hK σ env s env' w Q he E k
  refine wE.of (pe_bm PySem.F.plainAttrs_list slot hty rule pe_wE (pa_wL ha.ns) hbase hfew hline (ha.ns e List.mem_cons_self es) hplain) ?_
  unfold mMutT at he
  split at he
  · rename_i ds env1 g0
    cases g1 : evAs as env1 with
    | none => simp only [g1] at he; cases he
    | some q =>
      obtain ⟨xs, env2⟩ := q
      simp only [g1] at he
      split at he
      · rename_i ss g2
        cases g4 : u ds ss with
        | none => rw [g4] at he; cases he
        | some q =>
          obtain ⟨res, ds'⟩ := q
          rw [g4] at he
          cases he
          refine ho hK σ env _ _ w _ g0 E fun v w1 Fr E1 T1 p1 f1 => ?_
          have rep := T1.rep
          obtain ⟨p, vs, rfl, hp, rp, n⟩ := rep
          refine ⟨.inl ⟨rfl, vs, SqL.of hp⟩, ?_⟩
          refine sdl_run hK ha g1 E1 fun ws w2 Frs E2 A2 p2 f2 => ?_
          have T2 := TR.step E1 T1 p2
          have fp : Fr p := (n p).mpr rfl
          have hp2 := p2.keep p _ (fun j => T1.off p j fp) hp
          have m2 := T2.sub p fp
          refine hu w2.M w2.H p vs ds ws ss res ds' Q m2 hp2 (rp.go (E1.go p2)) (A2.peeks E2 g2) g4 fun y vs' r' hy => ?_
          obtain ⟨E3, go3⟩ := E2.write (o := .lst vs') m2 (fun j => T2.off p j fp)
          refine k y ⟨w2.M, w2.F, upd w2.H p (.lst vs')⟩ (fun _ => False) E3 (TR.dat (hy _ _ go3)) ?_ fun _ z => z.elim
          have p12 := p1.trans p2 E.dom
          refine ⟨fun b o nb eo => ?_, p12.mu, p12.src, p12.own, fun b hb => ?_⟩
          · show upd w2.H p (.lst vs') b = some o
            have nbp : b ≠ p := fun z => by
              rcases f1 p fp with ⟨j, y⟩ | y
              · exact nb j (z ▸ y)
              · rw [z, y] at eo; cases eo
            rw [upd_ne nbp]
            exact p12.keep b o nb eo
          · show upd w2.H p (.lst vs') b ≠ none
            by_cases z : b = p
            · rw [z, upd_same]; simp
            · rw [upd_ne z]; exact p12.live b hb
      · cases he
  · cases he

/-! ### a, b = e, f where a name is a cell -/
theorem sds_parC {i j : Nat} {x y : Str} {fa fb : Ev Γ} {px py pt : Pos} {kt k2 pt2} (hAi : i ∈ A) (hAj : j ∈ A) (hi : X.N[i]? = some x) (hj : X.N[j]? = some y) (hij : i ≠ j)
    (hx : Loc X.env.scope x) (hy : Loc X.env.scope y) (hfx : X.fn x = true ∨ X.env.scope.names.lookup x = some .local) (hfy : X.fn y = true ∨ X.env.scope.names.lookup y = some .local) (ha : SdE Γ X a fa) (na : NS X a) (hb : SdE Γ X b fb) (nb : NS X b)
    (hs : swapsWithSole [.Tuple [.Name x px, .Name y py] kt pt] (.Tuple [a, b] k2 pt2) pos.line X.env = pure false := by rfl) (hw : swappedStores [.Tuple [.Name x px, .Name y py] kt pt] (.Tuple [a, b] k2 pt2) X.env = pure none := by rfl)
    (h1 : (assignEach [.Tuple [.Name x px, .Name y py] kt pt] X.env).map (·.2) = [assign (.Tuple [.Name x px, .Name y py] kt pt) X.env] := by rfl)
    (h2 : (assignEach [.Name x px, .Name y py] X.env).length = 2 := by rfl) (h3 : (assignEach [.Name x px, .Name y py] X.env).findIdx? (·.1) = none := by rfl) :
    SdS Γ X A (.Assign [.Tuple [.Name x px, .Name y py] kt pt] (.Tuple [a, b] k2 pt2) pos) (mPar i j fa fb) := by
  intro hK σ env fl env' w D he E k
  refine wS.of (ps_asg (pe_tup (pa_wL (es := [a, b]) fun e h => by rcases List.mem_cons.mp h with z | z; (rw [z]; exact na); (rw [List.mem_singleton.mp z]; exact nb))) (pg_tup hK.calm (pgs_cons (pg_name hK.nd hi hx hfx) (pgs_cons (pg_name hK.nd hj hy hfy) pgs_nil rfl) rfl) h2 h3) hs hw h1) ?_
  unfold mPar at he
  cases g1 : fa env with
  | none => simp only [g1] at he; cases he
  | some q =>
    obtain ⟨s, env1⟩ := q
    simp only [g1] at he
    cases g2 : fb env1 with
    | none => simp only [g2] at he; cases he
    | some q =>
      obtain ⟨t, env2⟩ := q
      simp only [g2] at he
      split at he
      · rename_i hl
        cases he
        refine ha hK σ env _ _ w _ g1 E fun v w1 Fr E1 T1 p1 f1 => ?_
        refine hb hK σ env1 _ _ w1 _ g2 E1 fun u w2 Fr2 E2 T2 p2 f2 => ?_
        refine ⟨by show 2 ≤ sizeLine; decide, fun p hp => ⟨p, [v, u], rfl, .inl (.inl upd_same), rfl, ?_⟩⟩
        obtain ⟨E2', p3⟩ := E2.grow (Fr := fun _ => False) (H' := upd w2.H p (.tup [v, u])) (upd_keep hp) (fun _ z => z.elim)
        have T1' := TR.step E2 (TR.step E1 T1 p2) p3
        have T2'' := TR.step E2 T2 p3
        have dis : ∀ z, Fr z → ¬ Fr2 z := fun z q q' => by
          rcases f2 z q' with ⟨i, r⟩ | r
          · exact T1.off z i q r
          · exact E1.dom z (T1.sub z q) r
        have p12 := (p1.trans p2 E.dom).trans p3 E.dom
        have E3 := E2'.set T1' hl.1
        have T2' : TR Γ ⟨fun a => w2.M a ∨ False, fun j a => if j = i then Fr a else w2.F j a, upd w2.H p (.tup [v, u])⟩ u t Fr2 := ⟨T2''.rep, T2''.sub, fun a l q z => by
          have z' : (if l = i then Fr a else w2.F l a) := z
          split at z'
          · exact dis a z' q
          · exact T2.off a l q z'⟩
        have E4 := E3.set T2' (i := j) (by rw [List.length_set]; exact hl.2)
        exact ⟨v, [u], rfl, u, [], rfl, rfl, k _ ⟨fun a => w2.M a ∨ False, fun l a => if l = j then Fr2 a else if l = i then Fr a else w2.F l a, upd w2.H p (.tup [v, u])⟩ E4 ((p12.set f1).set (f2.back p1)) ((Agree.set hAi).trans (Agree.set hAj))⟩
      · cases he
end
end G

/-! G22: what a text's class offers, told once for all callers -/
namespace G
open PySem L2
section
variable (Γ : Gam) (P : Program) (w : World) (mg : Str → Option Value) (base : Heap)
structure MCa (c : Nat) (m : Str) (np : Nat) (g : Fn Γ) (k : Nat) : Prop where
  ex : ∃ C ns f fd ps, Γ.cls c = some (C, ns) ∧ Cls Γ.K C ∧ Meth Γ.K C m f ∧ FnOk P w Γ.K mg base CX0 k f fd ps (spG Γ np g) ∧ Binds Γ.K fd ps []
structure KCa (c : Nat) (m : Str) (np : Nat) (g : Fn Γ) (ks : List Str) (n1 k : Nat) : Prop where
  ex : ∃ C ns f fd ps, Γ.cls c = some (C, ns) ∧ Cls Γ.K C ∧ Meth Γ.K C m f ∧ FnOk P w Γ.K mg base CX0 k f fd ps (spG Γ np g) ∧ KB Γ.K fd ps ks n1
structure VCa (c : Nat) (x : Str) (g : Fn Γ) (k : Nat) : Prop where
  ex : ∃ C ns f, Γ.cls c = some (C, ns) ∧ Mk Γ.K C f ∧ FnR P w Γ.K mg base CX0 k f (spV Γ 2 g) ∧ mg x = some (.ref C)
structure OCa (c : Nat) (m : Str) (g : Fn Γ) (k : Nat) : Prop where
  ex : ∃ C ns f fd ps, Γ.cls c = some (C, ns) ∧ PySem.W.findIn Γ.K (.ref C) m = some (some (.ref f)) ∧ PySem.W.isFn Γ.K (.ref f) = true ∧ PySem.W.selfFirst Γ.K C = true ∧ PySem.W.notFirst Γ.K C (.type "list") = true ∧ FnOk P w Γ.K mg base CX0 k f fd ps (spG Γ 2 g) ∧ Binds Γ.K fd ps []
structure ICa (c : Nat) (x : Str) : Prop where
  ex : ∃ C ns, Γ.cls c = some (C, ns) ∧ mg x = some (.ref C) ∧ Cls Γ.K C ∧ PySem.W.findIn Γ.K (.ref C) "__class__" = some (some (.builtin "object.__class__")) ∧ PySem.W.specialIn Γ.K (.builtin "object.__class__") "__get__" = some (some (.builtin "getset_descriptor.__get__")) ∧
    PySem.W.takesIn Γ.K (.builtin "object.__class__") = some true ∧ PySem.W.mroIn Γ.K C (.type "object") = some true ∧ PySem.W.kitOne Γ.K (.ref C) (.ref C) = some true ∧ PySem.W.kitOne Γ.K (.type "list") (.ref C) = some false
end
section
variable {Γ : Gam} {X : Cx} {c np k j n1 : Nat} {m x : Str} {g : Fn Γ} {ks : List Str}
theorem MCa.mf (hK : Γ.K = X.K) (h : MCa Γ X.prog X.w X.mg X.base c m np g k) (hr : Room j X.A) (l : k ≤ j) : Mf Γ X c m np g := by
  obtain ⟨C, ns, f, fd, ps, h1, h2, h3, h4, h5⟩ := h
  exact ⟨C, ns, k, f, fd, ps, h1, hK ▸ h2, hK ▸ h3, hK ▸ h4, hr.mono l, hK ▸ h5⟩
theorem KCa.mf (hK : Γ.K = X.K) (h : KCa Γ X.prog X.w X.mg X.base c m np g ks n1 k) (hr : Room j X.A) (l : k ≤ j) : MfK Γ X c m np g ks n1 := by
  obtain ⟨C, ns, f, fd, ps, h1, h2, h3, h4, h5⟩ := h
  exact ⟨C, ns, k, f, fd, ps, h1, hK ▸ h2, hK ▸ h3, hK ▸ h4, hr.mono l, hK ▸ h5⟩
theorem VCa.v (hK : Γ.K = X.K) (h : VCa Γ X.prog X.w X.mg X.base c x g k) (hr : Room j X.A) (l : k + 1 ≤ j) : MkV Γ X c x g := by
  obtain ⟨C, ns, f, h1, h2, h3, h4⟩ := h
  exact ⟨C, ns, k, f, h1, hK ▸ h2, hK ▸ h3, hr.mono l, h4⟩
theorem OCa.ow (hK : Γ.K = X.K) (h : OCa Γ X.prog X.w X.mg X.base c m g k) (hr : Room j X.A) (l : k ≤ j) : Own Γ X c m g := by
  obtain ⟨C, ns, f, fd, ps, h1, h2, h3, h4, h5, h6, h7⟩ := h
  exact ⟨C, ns, k, f, fd, ps, h1, hK ▸ h2, hK ▸ h3, hK ▸ h4, hK ▸ h5, hK ▸ h6, hr.mono l, hK ▸ h7⟩
theorem ICa.is (hK : Γ.K = X.K) (h : ICa Γ X.mg c x) : IsC Γ X c x := by
  obtain ⟨C, ns, h1, h2, h3, h4, h5, h6, h7, h8, h9⟩ := h
  exact ⟨C, ns, h1, h2, hK ▸ h3, hK ▸ h4, hK ▸ h5, hK ▸ h6, hK ▸ h7, hK ▸ h8, hK ▸ h9⟩
end
end G

/-! L1: an own error's __init__(self, x): super().__init__(e), self.f = x -/
namespace G
open PySem L2

/-- what such an __init__ does: the error at a gets a dict that holds the argument -/
def spSup (C : Addr) (fld : Str) (ok : V → Prop) : Sp := fun vs H Q _ => ∃ a v, vs = [.ref a, v] ∧ H a = some (exo a C none) ∧ ok v ∧
  ∀ dx, H dx = none → dx ≠ a → Q .non (upd (upd H dx (exd dx [(fld, v)])) a (exo a C (some dx)))

/-- the frame of such a def -/
def cxSup (P : Program) (w : World) (K : PySem.W.Frag) (mg : Str → Option Value) (base : Heap) (N : List Str) (env : PySem.Env) (A : Around) (outer : List PySem.Env) (s : Shared) (H : Hp) : Cx where
  prog := P
  w := w
  K := K
  mg := mg
  base := base
  A := A.deeper env
  N := N
  s_0 := s
  H_0 := H
  env := env
  outer := outer
  stack := env :: outer
  ex := []
  calm := true
  fn := fun _ => false
  pn := []
  xe := fun _ _ => False

theorem inv_sup {P : Program} {w : World} {K : PySem.W.Frag} {mg : Str → Option Value} {base : Heap} {A : Around} {outer : List PySem.Env} {s : Shared} {H : Hp} {qual self arg : Str} {scope : Scope} {f cc : Addr} {cd u0 u1 cl : Value} {v0 v1 : V} {cv : Option Value} {cld : Option Addr} {csl : Array (Option Value)} {h1 : Heap} {tk : Nat}
    (hd : A.handled = none) (e0 : Env0 P w K mg base A outer s H) (hkind : scope.kind = .function) (hcell : K.lookup cc = some ⟨cl, cld, .cell cv, csl⟩) (hne : self ≠ arg)
    (hls : scope.names.lookup self = some .local) (hla : scope.names.lookup arg = some .local) (hnc : ∀ x, scope.names.lookup x ≠ some .cell) (hfr : ∀ x, scope.names.lookup x = some .free → x = "__class__") (r0 : RelV v0 u0) (r1 : RelV v1 u1)
    (hns : h1.Ns s.heap.objs.size (fun x => ([self, arg].zip [u0, u1]).reverse.lookup x)) (hk : ∀ b o, s.heap.get? b = some o → h1.get? b = some o) :
    Inv (cxSup P w K mg base [self, arg] (PySem.W.ksEnv qual scope s.heap.objs.size f cd cc) A outer s H) [] [some v0, some v1] H { s with heap := h1, toks := tk } := by
  have KX : K.In s.heap := e0.mod.kin.keeps fun b o e => (e0.bs b o e).1
  have hcb : base.get? cc = some ⟨cl, cld, .cell cv, csl⟩ := e0.mod.kin _ _ hcell
  have lk1 : ∀ {x : Str} {c : Addr}, List.lookup x [(("__class__" : Str), cc)] = some c → x = "__class__" ∧ c = cc := fun {x c} h => by
    rw [List.lookup_cons] at h
    split at h
    · rename_i z
      cases h
      exact ⟨by simpa using z, rfl⟩
    · cases h
  refine ⟨⟨e0.mod, hkind, rfl, rfl, Nat.le_refl _, fun y z c a b => (lk1 a).1.trans (lk1 b).1.symm, fun y hy => ?_, fun y c q _ => (nomatch q), fun _ => hd, Around.frames_deeper e0.frames, .inr ⟨rfl, rfl⟩, fun b z => (nomatch z), e0.bs, e0.bsz, fun b _ _ z => (nomatch z), fun b z => (nomatch z), e0.funs, e0.frf⟩,
    rfl, e0.bare, Un.kept hk, ⟨_, hns, fun i y v a b c => ?_⟩, fun y c q => ?_, e0.hok.fresh (Nat.le_refl _), fun y c q => ?_, fun p hp => (nomatch hp), e0.hok.kept hk, rfl⟩
  · rcases hy with hy | hy
    · exact absurd hy (hnc y)
    · refine ⟨cc, ?_⟩
      rw [hfr y hy]
      show List.lookup ("__class__" : Str) [(("__class__" : Str), cc)] = some cc
      simp
  · have nse : (arg == self) = false := by simpa using fun z : arg = self => hne z.symm
    match i, a, b with
    | 0, a, b =>
      cases a; cases b
      refine ⟨u0, r0, .inl ⟨hls, ?_⟩⟩
      show List.lookup self [(arg, u1), (self, u0)] = some u0
      rw [List.lookup_cons, show (self == arg) = false from by simpa using hne]
      simp
    | 1, a, b =>
      cases a; cases b
      refine ⟨u1, r1, .inl ⟨hla, ?_⟩⟩
      simp [List.lookup_cons]
    | n + 2, a, b => exact absurd a (by simp [cxSup])
  · rw [(lk1 q).2]
    exact ⟨cv, _, hk _ _ (KX _ _ hcell), rfl⟩
  · rw [(lk1 q).2]
    exact (e0.bs _ _ hcb).2

section
variable {P : Program} {w : World} {K : PySem.W.Frag} {mg : Str → Option Value} {base : Heap}
/-- the wrapper that super() hands out, called: the error's args are laid anew -/
theorem call_wr {X : Cx} {pins : List (Addr × Obj)} {σ : St} {H : Hp} {s : Shared} {a C u : Addr} {us : List Value} {A : Around} {E : Value → Shared → Prop} {Q : Value → Shared → Prop} (T : OexC X.K C) (I : Inv X pins σ H s) (e : H a = some (exo a C none)) (hu : s.heap.get? u = some (PySem.W.kxs_mw "ValueError.__init__" a)) (hl : us.length ≤ sizeLine)
    (h : ∀ s', Inv X pins σ H s' → Q .none s') : wpAny (model X.prog X.w) A (call (.ref u) us) Q E s := by
  obtain ⟨nm, q, N, bs, bm, sn, sub, ab, col, dd, k0, k1, k2, k3, k5, hC, hbm⟩ := T.cls
  obtain ⟨t1, ho⟩ := exo_at I.hok e
  have fin : ∀ h' tk, (∀ b o, b ≠ a → s.heap.get? b = some o → h'.get? b = some o) → h'.get? a = some ({ cls := .ref C, dict := none, data := .fields #[.ref s.heap.objs.size, .none, .none, .none, .bool false, .none] } : Obj) → Q .none { s with heap := h', toks := tk } := fun h' tk k hx => by
    have J := I.write (t' := tk) (x := a) (e := a) (o := exo a C none) (by rw [e]; exact True.intro) (.inl rfl) k ⟨_, hx⟩ (exo_ok hx)
    have eu : upd H a (exo a C none) = H := by
      funext b
      by_cases hb : b = a
      · rw [hb, upd_same, e]
      · rw [upd_ne hb]
    rw [eu] at J
    exact h _ J
  have hCs := I.kIn _ _ hC
  obtain ⟨hh, g, d, tk, os⟩ := s
  refine wpAny_call (codeAny_of_tree ?_)
  show wpAny _ A.in1 (callAny (.ref u) ⟨us, []⟩) _ _ _
  simp only [callAny]
  refine wpAny_bind (wpAny_load hu ?_)
  have w1 : (Value.type "method-wrapper" == Value.type "method" || Value.type "method-wrapper" == Value.type "builtin_function_or_method" || Value.type "method-wrapper" == Value.type "method-wrapper") = true := by decide
  simp only [PySem.W.kxs_mw, w1, if_true]
  refine PySem.W.KFB.if_so (by decide) ?_
  have FB := F.excBase_ValueError
  refine wpAny_bind (PySem.W.check_bound_init FB.toExcCallFacts hCs ho rfl ?_)
  refine wpAny_bind (wpAny_pure (wpAny_pure ?_))
  refine ⟨plainId_quiet FB.init.plain _, codeAny_builtin FB.initEntry ?_⟩
  exact PySem.W.exc_init_tree (cls := .ref C) (t0 := t1) (dv := none) (c2 := .none) (c3 := .none) (b4 := .bool false) ho hl fun h' k e' _ => fin h' tk k e'
end
end G

/-! L2t: the rule for such an __init__ -/
namespace G
open PySem L2

/-- what the written part says of the def -/
structure SupK (P : Program) (K : PySem.W.Frag) (C f : Addr) (fd : FuncData) (qual me arg fld : Str) (body : List Stmt) (scope : Scope) : Prop where
  ex : ∃ (name : Str) (params : Arguments) (dV kV doc pm ct oc ccl cl : Value) (an od cdd cld : Option Addr) (osl ccs csl : Array (Option Value)) (cc cda : Addr) (vs0 : Array Value) (file : Str) (tf : Tok) (ar : Arg) (cdD : ClassData),
    fd = PySem.W.ksFn name qual params body scope dV kV doc pm an (.ref cda) ct cc ∧ K.lookup f = some ⟨oc, od, .func fd, osl⟩ ∧ PySem.W.codeIn K (.ref cda) qual = true ∧ K.lookup cda = some ⟨ccl, cdd, .fields vs0, ccs⟩ ∧ vs0[2]? = some (.str file tf) ∧ ((P.main.file : Str) == file) = true ∧
    K.lookup cc = some ⟨cl, cld, .cell (some (.ref C)), csl⟩ ∧ PySem.W.clsIn K C = some cdD ∧ (params.posonlyargs ++ params.args).head? = some ar ∧ ar.arg = me
  T : OexC K C
  sub : PySem.W.mroIn K C (.ref C) = some true
  al : PySem.W.ks_superIn K C C "__init__" = some (some (.builtin "ValueError.__init__"))
  ve : PySem.W.subIn K (.ref C) (.type "ValueError") = some true
  op : PySem.W.nsIn K cStatics "thirdparty.any" = some none
  fl : PySem.W.findIn K (.ref C) fld = some none
  top : (P.main.scope.names.lookup ("super" : Str)).isSome = false
/-- its scope -/
structure SupS (scope : Scope) (me arg : Str) : Prop where
  kind : scope.kind = .function
  co : scope.isCoroutine = false
  gen : scope.isGenerator = false
  sf : scope.names.lookup me = some .local
  ag : scope.names.lookup arg = some .local
  sp : scope.names.lookup ("super" : Str) = some .globalImplicit
  cl : scope.names.lookup ("__class__" : Str) = some .free
  nc : ∀ x ∈ scope.names, x.2 ≠ .cell
  fr : ∀ x ∈ scope.names, x.2 = .free → x.1 = "__class__"
  ne : me ≠ arg

theorem fn_super {P : Program} {w : World} {K : PySem.W.Frag} {mg : Str → Option Value} {base : Heap} {k : Nat} {f C : Addr} {fd : FuncData} {qual self arg fld : Str} {scope : Scope} {e : Expr} {p0 p1 p2 p3 p4 q0 q1 q2 q3 : Pos} {te : TE} {ok : V → Prop}
    (D : SupK P K C f fd qual self arg fld [.Expr (.Call (.Attribute (.Call (.Name "super" p0) [] [] p1) "__init__" p2) [e] [] p3) p4, .Assign [.Attribute (.Name self q0) fld q1] (.Name arg q2) q3] scope) (S : SupS scope self arg) (hm : mg "super" = none)
    (he : ∀ X : Cx, X.N = [self, arg] → X.env.scope = scope → PE X e te) (hte : ∀ (a : Addr) (v : V) (H : Hp) (Q : VK), ok v → (∀ y, Q (.str y) H) → te [some (.ref a), some v] H Q)
    (hev : ∀ env : PySem.Env, ∃ pl, eval (.Call (.Attribute (.Call (.Name "super" p0) [] [] p1) "__init__" p2) [e] [] p3) env = (do
      let ov ← attributeBase (.Call (.Name "super" p0) [] [] p1) "__init__" env (eval (.Call (.Name "super" p0) [] [] p1) env)
      standAt p2.atName
      let (f, first) ← holding [ov] (getMethod ov "__init__" pl)
      callWith p3 f first (backTo p3 (starEach [e] env)) []))
    (hns : ∀ env, starEach [e] env = (false, eval e env) :: starEach [] env := by intro _; rfl)
    (hds : (self == ("__debug__" : Str)) = false := by decide) (hcs : (self == ("__classdict__" : Str)) = false := by decide) (hda : (arg == ("__debug__" : Str)) = false := by decide) (hca : (arg == ("__classdict__" : Str)) = false := by decide) :
    FnOk P w K mg base CX0 (k + 1) f fd [self, arg] (spSup C fld ok) := by
  obtain ⟨name, params, dV, kV, doc, pm, ct, oc, ccl, cl, an, od, cdd, cld, osl, ccs, csl, cc, cda, vs0, file, tf, ar, cdD, rfl, lk, hcd, hcode, hvs, hfile, hcell, hD, hp, har⟩ := D.ex
  refine ⟨fun vs H Q E ⟨a, v, ev, _⟩ => by rw [ev]; rfl, fun A outer s H args us vs Q E hr e0 hb r hsp => ?_⟩
  obtain ⟨a, v, rfl, hea, hok, hQ⟩ := hsp
  cases r with
  | @cons _ u0 _ _ r0 r =>
  cases r with
  | @cons _ u1 _ _ r1 r =>
  cases r
  obtain rfl : u0 = Value.ref a := r0
  have KX : K.In s.heap := e0.mod.kin.keeps fun b o e => (e0.bs b o e).1
  have lim : s.heap.NoLimit := e0.mod.nolimit.keeps fun b o e => (e0.bs b o e).1
  have hnc : ∀ x, scope.names.lookup x ≠ some .cell := fun x z => S.nc _ (PySem.mem_of_lookup z) rfl
  have hfr : ∀ x, scope.names.lookup x = some .free → x = "__class__" := fun x z => S.fr _ (PySem.mem_of_lookup z) rfl
  refine ks_codeAny_call_defAt (binds := [self, arg].zip [.ref a, u1]) hr.depth (KX _ _ lk) rfl lim (PySem.W.codeRec_of KX hcd) rfl hb S.nc (fun x hx => ?_) (fun h1 hns1 hk1 => ?_) S.co S.gen S.kind
  · rcases List.mem_cons.mp hx with z | z
    · rw [z]; exact S.sf
    · rw [List.mem_singleton.mp z]; exact S.ag
  have I1 : Inv (cxSup P w K mg base [self, arg] (PySem.W.ksEnv qual scope s.heap.objs.size f (.ref cda) cc) A outer s H) [] [some (.ref a), some v] H { s with heap := h1, toks := s.toks + 2 } :=
    inv_sup hr.hd e0 S.kind hcell S.ne S.sf S.ag hnc hfr (show RelV (.ref a) (.ref a) from rfl) r1 hns1 hk1
  have tgt : wpAt (model P w) (A.deeper (PySem.W.ksEnv qual scope s.heap.objs.size f (.ref cda) cc)) (.func [.Expr (.Call (.Attribute (.Call (.Name "super" p0) [] [] p1) "__init__" p2) [e] [] p3) p4, .Assign [.Attribute (.Name self q0) fld q1] (.Name arg q2) q3] (PySem.W.ksEnv qual scope s.heap.objs.size f (.ref cda) cc))
      (execs [.Expr (.Call (.Attribute (.Call (.Name "super" p0) [] [] p1) "__init__" p2) [e] [] p3) p4, .Assign [.Attribute (.Name self q0) fld q1] (.Name arg q2) q3] (PySem.W.ksEnv qual scope s.heap.objs.size f (.ref cda) cc))
      (fun fl s' => SP (cxSup P w K mg base [self, arg] (PySem.W.ksEnv qual scope s.heap.objs.size f (.ref cda) cc) A outer s H) [] { nx := fun _ H' => Q .non H', rt := fun _ _ => False } fl s') (fun _ _ => False) { s with heap := h1, toks := s.toks + 2 } := by
    obtain ⟨t1, hx⟩ := exo_at I1.hok hea
    have KX1 : K.In h1 := I1.kIn
    obtain ⟨oD, hD1, hD2⟩ : ∃ oD, h1.get? C = some oD ∧ oD.data = .cls cdD := by
      unfold PySem.W.clsIn at hD
      split at hD
      · rename_i c d cd' sl ho
        cases hD
        exact ⟨_, KX1 _ _ ho, rfl⟩
      · cases hD
    obtain ⟨pl, hpl⟩ := hev (PySem.W.ksEnv qual scope s.heap.objs.size f (.ref cda) cc)
    refine ks_wpAt_execs_cons (ks_wpAt_Expr_any (hi := by unfold interactive; rw [show (PySem.W.ksEnv qual scope s.heap.objs.size f (.ref cda) cc).scope = scope from rfl, S.kind]; rfl) (ks_wpAt_MethodCall (he := hpl) (ks_wpAt_super_base S.sp S.cl (by decide) rfl (KX1 _ _ lk) rfl hp rfl (KX1 _ _ hcode) rfl hvs hfile D.top ?_)))
    obtain ⟨mb, b1, b2⟩ := I1.mod.blt
    refine PySem.W.ks_loadName_global S.kind S.sp (Calls.loadGlobal_builtin (I1.mod.glob.keeps I1.bk) hm (b1.keeps I1.bk) ((b2 _ (by decide)).trans PyProof.Rows.Boot.«super») ⟨rfl, ?_⟩)
    refine wpAny_loadName_free S.kind S.cl rfl ⟨_, KX1 _ _ hcell, rfl⟩ ?_
    rw [har]
    refine wpAny_loadName_local (v := .ref a) S.kind S.sf hns1 ?_ ?_
    · show List.lookup self [(arg, u1), (self, Value.ref a)] = some (.ref a)
      rw [List.lookup_cons, show (self == arg) = false from by simpa using S.ne]
      simp
    refine ks_wpAny_isType_cls hD1 hD2 ⟨rfl, ?_⟩
    refine ks_wpAny_call_super hD1 hD2 hx rfl (fun c z => by cases z) (PySem.W.looks_mroIn KX1 D.sub) fun h2 hso k2 => ?_
    have I2 := I1.kept (h' := h2) (t' := s.toks + 2) k2
    have KX2 : K.In h2 := I2.kIn
    have IA : PySem.W.InstAt h2 a { cls := .ref C, dict := none, data := .fields #[.ref t1, .none, .none, .none, .bool false, .none] } C none := ⟨k2 _ _ hx, rfl, rfl, trivial⟩
    have hal := D.al
    unfold PySem.W.ks_superIn at hal
    rw [hD] at hal
    refine PySem.W.kxs_getMethod PySem.W.kxs_ValueError hso (PySem.W.looks_opaque KX2 D.op) (l₀ := cdD.mro) (fun A Q E s k q => wpAny_bind ((PySem.W.looks_clsIn KX2 hD) A _ E s k (wpAny_pure q))) rfl KX2 hal (IA.type.andThen (PySem.W.looks_subIn KX2 D.ve)) (PySem.W.ks_ne KX2 IA hD) (by decide) ?_
    have k3 : ∀ b o, h2.get? b = some o → (h2.push (PySem.W.kxs_mw "ValueError.__init__" a)).get? b = some o := fun b o z => Heap.get?_push_of_some _ z
    have hu3 : (h2.push (PySem.W.kxs_mw "ValueError.__init__" a)).get? h2.objs.size = some (PySem.W.kxs_mw "ValueError.__init__" a) := Heap.get?_push_at rfl rfl
    have I3 := I2.kept (h' := h2.push (PySem.W.kxs_mw "ValueError.__init__" a)) (t' := s.toks + 2 + 1) k3
    have lt2 : s.heap.objs.size < h2.objs.size := by
      obtain ⟨oL, es, ep, hL, _⟩ := hns1
      exact Heap.lt_size (k2 _ _ hL)
    have I4 : Inv (cxSup P w K mg base [self, arg] (PySem.W.ksEnv qual scope s.heap.objs.size f (.ref cda) cc) A outer s H) [(h2.objs.size, PySem.W.kxs_mw "ValueError.__init__" a)] [some (.ref a), some v] H ⟨h2.push (PySem.W.kxs_mw "ValueError.__init__" a), s.gens, s.drawn, s.toks + 2 + 1, s.os⟩ := I3.pins_of fun p hp => by
      rw [List.mem_singleton.mp hp]
      exact ⟨hu3, I2.hok.fresh (Nat.le_refl _), Nat.ne_of_gt lt2, I2.nofs (Nat.le_refl _), fun v q => by cases q⟩
    refine PySem.W.kxs_callWith (i := "ValueError.__init__") (x := a) (by rw [hns]; rfl) ?_
    rw [hns]
    refine Calls.evalArgs_plain ?_
    refine Calls.spliced_cons (thn ((he (cxSup P w K mg base [self, arg] (PySem.W.ksEnv qual scope s.heap.objs.size f (.ref cda) cc) A outer s H) rfl rfl).run _ _ _ _ (fun x H1 => H1 = H) I4 (hte a v H _ hok fun y => rfl)) fun uu s5 ⟨xx, H5, I5, rx, eH⟩ => ?_)
    subst eH
    refine Calls.spliced_nil ?_
    have hu5 := (I5.pin _ (List.mem_append_right _ List.mem_cons_self)).1
    refine ⟨hu5, call_wr D.T I5 hea hu5 (by show 1 ≤ sizeLine; decide) fun s6 I6 => ?_⟩
    have I7 : Inv (cxSup P w K mg base [self, arg] (PySem.W.ksEnv qual scope s.heap.objs.size f (.ref cda) cc) A outer s H5) [] [some (.ref a), some v] H5 s6 := I6.pins_of fun p hp => (nomatch hp)
    have ps := pss_one (X := cxSup P w K mg base [self, arg] (PySem.W.ksEnv qual scope s.heap.objs.size f (.ref cda) cc) A outer s H5) (ps_ost (pos := q3) (p' := q1) (f := fld) (pe_var (i := 0) (pos := q0) rfl (.inl S.sf) hds hcs) (pe_var (i := 1) (pos := q2) rfl (.inl S.ag) hda hca) (hs := rfl))
    refine wpAt_of_wpAny (ps.run [] s6 _ H5 { nx := fun _ H' => Q .non H', rt := fun _ _ => False } I7 ?_)
    exact ⟨v, rfl, .ref a, rfl, a, C, rfl, D.T, D.fl, .inl ⟨hea, fun dx n ne => hQ dx n ne⟩⟩
  refine ks_wpAt_mono tgt (fun fl s' hs => ?_) fun _ _ z => z.elim
  cases fl with
  | next =>
    obtain ⟨σ', H', J, q⟩ := hs
    exact ⟨.non, H', J.os, J.bare, J.base, J.hok, rfl, q⟩
  | ret u => obtain ⟨_, _, _, _, _, q⟩ := hs; exact q.elim
  | brk => obtain ⟨_, _, _, q⟩ := hs; exact q.elim
  | cont => obtain ⟨_, _, _, q⟩ := hs; exact q.elim
end G

/-! L3: C(e, .., k = v, ..), the lacking keywords filled up by their defaults -/
namespace G
open PySem L2

/-- a call by n1 values and the keywords ks: what lacks between them is pre -/
structure KBd (Γ : Gam) (K : PySem.W.Frag) (fd : FuncData) (ps ks : List Str) (n1 : Nat) (pre : List D) : Prop where
  ex : ∃ (pv : List V) (pu : List Value), Vals pv pu ∧ (∀ M H, Dats Γ M H pv pre) ∧ ∀ (s : Shared) (us ws : List Value), K.In s.heap → us.length = n1 → ws.length = ks.length → BindsTo s fd ⟨us, ks.zip ws⟩ (ps.zip (us ++ (pu ++ ws)))

section
variable {X : Cx} {CX : CXT} {k n : Nat} {f C : Addr} {fd : FuncData} {ps ks : List Str} {sp : Sp} {E : XK} {x : Str} {p pos : Pos} {e : Expr} {es : List Expr} {kws : List Keyword} {pv : List V} {pu : List Value} {σ : St} {H : Hp} {Q : VK}
theorem mk_at {pins : List (Addr × Obj)} {s : Shared} {us ws : List Value} {vs zs : List V} (M : Mk X.K C f) (F : FnOk X.prog X.w X.K X.mg X.base CX k f fd ps sp) (hr : Room (k + 1) X.A) (rp : Vals pv pu)
    (hb : ∀ (s : Shared) (us ws : List Value), X.K.In s.heap → us.length = n + 1 → ws.length = ks.length → BindsTo s fd ⟨us, ks.zip ws⟩ (ps.zip (us ++ (pu ++ ws)))) (hx : PassesAt CX X σ E)
    (I : Inv X pins σ H s) (r : Vals vs us) (rz : Vals zs ws) (l1 : vs.length = n) (l2 : zs.length = ks.length)
    (h : ∀ y dy, H y = none → H dy = none → dy ≠ y → sp (.ref y :: (vs ++ (pv ++ zs))) (upd (upd H dy (.own y)) y (.ins C dy [])) (fun v H2 => v = .non ∧ Q (.ref y) H2) E) :
    wpAny (model X.prog X.w) X.A (call (.ref C) us (ks.zip ws)) (EP X pins σ Q) X.xe s := by
  have J := Inv.made (C := C) I
  have q0 := h (s.heap.objs.size + 1) s.heap.objs.size (I.hok.fresh (Nat.le_succ _)) (I.hok.fresh (Nat.le_refl _)) (Nat.ne_of_lt (Nat.lt_succ_self _))
  have rr : Vals (V.ref (s.heap.objs.size + 1) :: (vs ++ (pv ++ zs))) (Value.ref (s.heap.objs.size + 1) :: (us ++ (pu ++ ws))) := .cons rfl (r.append (rp.append rz))
  have n1 : (Value.ref (s.heap.objs.size + 1) :: us).length = n + 1 := by rw [List.length_cons, ← r.length, l1]
  have bb := hb _ (Value.ref (s.heap.objs.size + 1) :: us) ws J.kIn n1 (rz.length.symm.trans l2)
  have run := F.run _ X.stack _ _ ⟨Value.ref (s.heap.objs.size + 1) :: us, ks.zip ws⟩ (Value.ref (s.heap.objs.size + 1) :: (us ++ (pu ++ ws))) _ _ E (hr.make C us (ks.zip ws)) (J.env0.make C us (ks.zip ws)) bb rr q0
  refine wpAny_call (make_map (f := f) I.kIn M.makes M.init (beq_iff_eq.mp M.fn) (codeAny_mono run fun o s' ho => ?_))
  match o, ho with
  | .error er, ho => exact hx pins _ _ er s' J ho
  | .ok (.ret u), ho =>
    obtain ⟨v, H', I3, rv, ev, q3⟩ := J.after ho
    subst ev
    exact ⟨rv, ⟨V.ref (s.heap.objs.size + 1), H', I3, rfl, q3⟩⟩
/-- C(e, .., k = v, ..) at these slots -/
theorem wE_make (M : Mk X.K C f) (F : FnOk X.prog X.w X.K X.mg X.base CX k f fd ps sp) (hr : Room (k + 1) X.A) (hg : Gl X x) (hm : X.mg x = some (.ref C)) (rp : Vals pv pu)
    (hb : ∀ (s : Shared) (us ws : List Value), X.K.In s.heap → us.length = n + 1 → ws.length = ks.length → BindsTo s fd ⟨us, ks.zip ws⟩ (ps.zip (us ++ (pu ++ ws)))) (hx : PassesAt CX X σ E) (hns : ∀ y ∈ e :: es, NS X y)
    (hall : (backToKw pos (keywordEach kws X.env)).all (·.1.isSome) = true) (hks : (backToKw pos (keywordEach kws X.env)).filterMap (·.1) = ks) (hdb : (x == ("__debug__" : Str)) = false)
    (hpl : ((backTo pos (starEach (e :: es) X.env)).any (·.1) || (backToKw pos (keywordEach kws X.env)).any (·.1.isNone)) = false)
    (h : wL X (e :: es) σ H fun vs H1 => wL X (kws.map (·.value)) σ H1 fun zs H2 => vs.length = n ∧ zs.length = ks.length ∧ ∀ y dy, H2 y = none → H2 dy = none → dy ≠ y →
      sp (.ref y :: (vs ++ (pv ++ zs))) (upd (upd H2 dy (.own y)) y (.ins C dy [])) (fun v H3 => v = .non ∧ Q (.ref y) H3) E) : wE X (.Call (.Name x p) (e :: es) kws pos) σ H Q := by
  intro pins s I
  refine wpAny_Call_Name_kw (ld_glob I hg hm ?_ hdb)
  have pa := pa_wL (X := X) hns
  refine PySem.W.callWith_KW (h₀ := X.base) I.ok.mod.kin M.kp hall (thn (pa.run pos pins s σ H _ I h) fun us s1 ⟨vs, H1, I1, r, q⟩ => ?_) hpl (hns e List.mem_cons_self es)
  refine thn ((pk_wL (kws := kws)).run pos pins s1 σ H1 _ I1 q) fun ws s2 ⟨zs, H2, I2, rz, l1, l2, q2⟩ => ⟨I2.kIn, ?_⟩
  rw [hks]
  exact mk_at M F hr rp hb hx I2 r rz l1 l2 q2
end

/-! ### the mirror -/
def insA {Γ : Gam} (n : Nat) (pre : List D) (xs : List (Ag Γ)) : List (Ag Γ) := xs.take n ++ (pre.map (fun d => Ag.val (.dat d)) ++ xs.drop n)
def mMakeK {Γ : Gam} (c np : Nat) (g : Fn Γ) (n : Nat) (pre : List D) (as : List (AE Γ)) : Ev Γ := fun env =>
  match evAs as env with
  | none => none
  | some (xs, env1) => match takeA (insA n pre xs) env1 with
    | none => none
    | some (args, env2, bs) => if args.length + 1 = np then
        match g (.ins c [] :: args) with
        | some (.dat .non, .ins c' fs :: args') => some (.ins c' fs, putA bs args' env2)
        | _ => none
      else none
section
variable {Γ : Gam} {X : Cx} {σ : St} {env env' : Env Γ} {w : Wd} {es : List Expr}
theorem ARs.pre {w : Wd} {vs : List V} {xs : List (Ag Γ)} {Frs : List (Addr → Prop)} (r : ARs Γ w σ vs xs Frs) : ∀ {pv : List V} {pre : List D}, Dats Γ w.M w.H pv pre → ARs Γ w σ (pv ++ vs) (pre.map (fun d => Ag.val (.dat d)) ++ xs) (pre.map (fun _ _ => False) ++ Frs)
  | _, _, .nil => r
  | _, _, .cons h t => .cons (show TR Γ w _ (.dat _) (fun _ => False) from ⟨⟨h, fun _ z => z⟩, fun _ z => z.elim, fun _ _ z => z.elim⟩) (fun _ _ _ z => z.elim) (ARs.pre r t)
theorem ARs.ins {w : Wd} {pv : List V} {pre : List D} (d : Dats Γ w.M w.H pv pre) : ∀ {vs : List V} {xs : List (Ag Γ)} {Frs : List (Addr → Prop)} (n : Nat), ARs Γ w σ vs xs Frs → ∃ Frs', ARs Γ w σ (vs.take n ++ (pv ++ vs.drop n)) (insA n pre xs) Frs' ∧ ∀ G ∈ Frs', G ∈ Frs ∨ ∀ a, ¬ G a
  | _, _, Frs, 0, r => ⟨_, ARs.pre r d, fun G hG => by
      rcases List.mem_append.mp hG with z | z
      · obtain ⟨_, _, rfl⟩ := List.mem_map.mp z
        exact .inr fun _ z => z
      · exact .inl z⟩
  | _, _, _, n + 1, .nil => ⟨_, by simpa [insA] using ARs.pre (σ := σ) .nil d, fun G hG => by
      obtain ⟨_, _, rfl⟩ := List.mem_map.mp hG
      exact .inr fun _ z => z⟩
  | _, _, _, n + 1, .cons (Fr := Fr) h e r => by
    obtain ⟨Fs, r', hG⟩ := ARs.ins d n r
    refine ⟨Fr :: Fs, .cons h (fun G hm x fx => ?_) r', fun G hm => ?_⟩
    · rcases hG G hm with z | z
      · exact e G z x fx
      · exact z x
    · rcases List.mem_cons.mp hm with z | z
      · exact .inl (z ▸ List.mem_cons_self)
      · rcases hG G z with y | y
        · exact .inl (List.mem_cons_of_mem _ y)
        · exact .inr y
theorem makeK_run {c np n : Nat} {C : Addr} {ns : List Str} {g : Fn Γ} {pre : List D} {as : List (AE Γ)} {r : Sl Γ} {Q : VK} {E0 : XK} {pv : List V} (hK : Gd Γ X) (hC : Γ.cls c = some (C, ns)) (hp : ∀ M H, Dats Γ M H pv pre) (ha : SdL Γ X es as) (he : mMakeK c np g n pre as env = some (r, env')) (E : ER Γ w σ env)
    (k : ∀ v w' Fr, ER Γ w' σ env' → TR Γ w' v r Fr → Step w w' → Fresh w Fr → Q v w'.H) :
    wL X es σ w.H fun vs H1 => ∀ x dx, H1 x = none → H1 dx = none → dx ≠ x → spG Γ np g (.ref x :: (vs.take n ++ (pv ++ vs.drop n))) (upd (upd H1 dx (.own x)) x (.ins C dx [])) (fun v H2 => v = .non ∧ Q (.ref x) H2) E0 := by
  unfold mMakeK at he
  cases g1 : evAs as env with
  | none => simp only [g1] at he; cases he
  | some q =>
    obtain ⟨xs, env1⟩ := q
    simp only [g1] at he
    cases g2 : takeA (insA n pre xs) env1 with
    | none => simp only [g2] at he; cases he
    | some q =>
      obtain ⟨args, env2, bs⟩ := q
      simp only [g2] at he
      split at he
      · rename_i hn
        split at he
        · rename_i c' fs args' g3
          cases he
          refine sdl_run hK ha g1 E fun vs w1 Frs0 E1 A0 p1 f0 x dx hx hdx hne => ?_
          obtain ⟨Frs, A1, hG0⟩ := ARs.ins (hp w1.M w1.H) n A0
          have f1 : ∀ G ∈ Frs, Fresh w G := fun G hG => by
            rcases hG0 G hG with z | z
            · exact f0 G z
            · exact fun a y => (z a y).elim
          have ext : ∀ b u, w1.H b = some u → upd (upd w1.H dx (.own x)) x (.ins C dx []) b = some u := fun b u e => by rw [upd_ne (ne_of_none e hx), upd_ne (ne_of_none e hdx)]; exact e
          obtain ⟨E2, p2⟩ := E1.grow (Fr := fun b => b = x) ext (fun b z => by subst z; exact ⟨hx, by rw [upd_same]; simp⟩)
          have A2 := A1.step E1 p2
          have T2 : TR Γ ⟨fun a => w1.M a ∨ a = x, w1.F, upd (upd w1.H dx (.own x)) x (.ins C dx [])⟩ (.ref x) (.ins c []) (fun b => b = x) :=
            ⟨⟨x, C, ns, dx, [], fun _ => False, rfl, hC, upd_same, .nil fun _ z => z, fun z => z, fun b => ⟨fun z => .inl z, fun z => z.elim id False.elim⟩⟩, fun b z => .inr z, fun b i z y => by subst z; exact E1.dom b (E1.sub i b y) hx⟩
          have hxw : w.H x = none := by
            cases q : w.H x with
            | none => rfl
            | some u => exact absurd hx (p1.live x (by rw [q]; simp))
          refine call_coreX (w := w) (env := env) (xs := .val (.ins c []) :: insA n pre xs) (Frs := (fun b => b = x) :: Frs) E (p1.trans p2 E.dom) E2 (.cons T2 (fun G hG b z y => ?_) A2) (fun G hG => ?_) (args := .ins c [] :: args) (env2 := env2) (bs := none :: bs) (by simp only [takeA, g2, Option.map_some]) (by simpa using hn) g3 fun v w' Fr E' T' p' f' ex => ?_
          · subst z
            exact A1.here E1 G hG b y hx
          · rcases List.mem_cons.mp hG with z | z
            · subst z; exact fun b y => .inr (y ▸ hxw)
            · exact f1 G z
          · refine ⟨T'.rep.non rfl, ?_⟩
            rcases ex 0 _ rfl rfl with z | ⟨u, G, eu, T3, f3⟩
            · cases z
            · cases eu
              have e' : putA (none :: bs) (.ins c' fs :: args') env2 = putA bs args' env2 := rfl
              rw [e'] at E'
              exact k _ w' G E' T3 p' f3
        · cases he
      · cases he
structure MkK (Γ : Gam) (X : Cx) (c : Nat) (x : Str) (np : Nat) (g : Fn Γ) (ks : List Str) (n1 : Nat) (pre : List D) : Prop where
  ex : ∃ C ns k f fd ps, Γ.cls c = some (C, ns) ∧ Mk X.K C f ∧ X.mg x = some (.ref C) ∧ FnOk X.prog X.w X.K X.mg X.base CX0 k f fd ps (spG Γ np g) ∧ Room (k + 1) X.A ∧ KBd Γ X.K fd ps ks n1 pre
theorem passAt0 {σ : St} {E : XK} : PassesAt CX0 X σ E := fun _ _ _ _ _ _ h => h.elim
theorem sd_makeK {c np n : Nat} {x : Str} {g : Fn Γ} {pre : List D} {as : List (AE Γ)} {e : Expr} {es : List Expr} {kws : List Keyword} {ks : List Str} {p pos : Pos} (h : MkK Γ X c x np g ks (n + 1) pre) (hg : Gl X x) (ha : SdL Γ X (e :: es ++ kws.map (·.value)) as) (hl1 : (e :: es).length = n) (hl2 : kws.length = ks.length)
    (hdb : (x == ("__debug__" : Str)) = false := by decide) (hall : (backToKw pos (keywordEach kws X.env)).all (·.1.isSome) = true := by rfl) (hks : (backToKw pos (keywordEach kws X.env)).filterMap (·.1) = ks := by rfl)
    (hpl : ((backTo pos (starEach (e :: es) X.env)).any (·.1) || (backToKw pos (keywordEach kws X.env)).any (·.1.isNone)) = false := by rfl) : SdE Γ X (.Call (.Name x p) (e :: es) kws pos) (mMakeK c np g n pre as) := by
  obtain ⟨C, ns, k0, f, fd, ps, h1, h2, h3, h4, h5, pv, pu, rp, dp, hb⟩ := h
  intro hK σ env r env' w Q he E k
  have hns := ha.ns
  refine wE_make (E := E0) (n := n) h2 h4 h5 hg h3 rp hb passAt0 (fun y hy => hns y (List.mem_append_left _ hy)) hall hks hdb hpl ?_
  have q := makeK_run (E0 := E0) hK h1 dp ha he E k
  refine wL_imp (wL_len (wL_app (es := e :: es) q)) fun vs H1 ⟨z1, z2⟩ => ?_
  refine wL_imp (wL_len z2) fun zs H2 ⟨z3, z4⟩ => ⟨by rw [z1]; exact hl1, by rw [z3, List.length_map]; exact hl2, ?_⟩
  have lv : vs.length = n := by rw [z1]; exact hl1
  have t1 : (vs ++ zs).take n = vs := by rw [← lv]; simp
  have t2 : (vs ++ zs).drop n = zs := by rw [← lv]; simp
  rw [t1, t2] at z4
  exact z4
end
end G

/-! L4: raising an own error; try with a clause that never fits and one that always does -/
namespace G
open PySem L2

/-- an own error with one attribute, made by a call of x -/
structure BadC (X : Cx) (x : Str) (CB : Addr) (fld : Str) (ok : V → Prop) : Prop where
  ex : ∃ k fI fd ps, FnOk X.prog X.w X.K X.mg X.base CX0 k fI fd ps (spSup CB fld ok) ∧ Room (k + 1) X.A ∧ Binds X.K fd ps [] ∧ PySem.W.findIn X.K (.ref CB) "__init__" = some (some (.ref fI)) ∧ PySem.W.typeIn X.K (.ref fI) = some (.type "function")
  T : OexC X.K CB
  mg : X.mg x = some (.ref CB)
section
variable {X : Cx} {x : Str} {CB : Addr} {fld nm : Str} {ok : V → Prop} {W : WX} {D : Ends} {σ : St} {H : Hp} {p p2 p3 p4 : Pos} {j : Option Str}
theorem wS_raise {jj : Nat} (B : BadC X x CB fld ok) (tk : Takes X W) (hc : X.calm = true) (hg : Gl X x) (hok : ok (.str nm)) (hdb : (x == ("__debug__" : Str)) = false) (h : ∀ dx, H dx = none → W (.ref CB) (some dx) σ (upd H dx (.xd [(fld, .str nm)]))) :
    wS X (.Raise (some (.Call (.Name x p) [.Constant (.str nm) jj p2] [] p3)) none p4) D σ H := by
  obtain ⟨k, fI, fd, ps, F1, hr, hb, iC, tI⟩ := B.ex
  refine wS.of (ps_raise hc tk (pmk_oex B.T iC tI F1 hr hb .nil pass0 hg B.mg (pa_cons pe_str pa_nil) hdb)) ?_
  refine ⟨by show 1 ≤ 1000; omega, fun a ha => ⟨a, .str nm, rfl, upd_same, hok, fun dx hd hne => ⟨rfl, dx, [(fld, .str nm)], upd_same, ?_, ?_, ?_⟩⟩⟩
  · rw [upd_ne hne, upd_same]
  · rw [upd_ne hne] at hd; exact hd
  · rw [upd_ne hne] at hd
    have e : upd (del (upd (upd (upd H a (exo a CB none)) dx (exd dx [(fld, .str nm)])) a (exo a CB (some dx))) a) dx (.xd [(fld, .str nm)]) = upd H dx (.xd [(fld, .str nm)]) := by
      funext b
      by_cases h1 : b = dx
      · subst h1; rw [upd_same, upd_same]
      · rw [upd_ne h1, upd_ne h1]
        by_cases h2 : b = a
        · subst h2; rw [del_same]; exact ha.symm
        · rw [del_ne h2, upd_ne h2, upd_ne h1, upd_ne h2]
    rw [e]
    exact h dx hd
end

/-! ### a block that raises -/
def SdZ (Γ : Gam) (X : Cx) (W : WX) (CB : Addr) (fld : Str) (sts : List Stmt) (z : Env Γ → Option Str) : Prop := Gd Γ X → ∀ (σ : St) (env : Env Γ) (nm : Str) (w : Wd) (D : Ends), z env = some nm → ER Γ w σ env →
  (∀ w' dx, Step w w' → w'.H dx = none → W (.ref CB) (some dx) σ (upd w'.H dx (.xd [(fld, .str nm)]))) → wSs X sts D σ w.H
def zIf {Γ : Gam} (c : Et Γ) (nm : Str) (z : Env Γ → Option Str) : Env Γ → Option Str := fun env =>
  match c env with
  | none => none
  | some (true, _) => some nm
  | some (false, env') => z env'
section
variable {Γ : Gam} {X : Cx} {W : WX} {CB : Addr} {fld : Str} {x : Str} {ok : V → Prop}
theorem sdz_none {sts : List Stmt} : SdZ Γ X W CB fld sts (fun _ => none) := fun _ _ _ _ _ _ h => nomatch h
theorem sdz_if {test : Expr} {c : Et Γ} {nm : Str} {rest : List Stmt} {z : Env Γ → Option Str} {jj : Nat} {p p2 p3 p4 p5 : Pos} (hc : SdT Γ X test c) (B : BadC X x CB fld ok) (tk : Takes X W) (hg : Gl X x) (hok : ok (.str nm)) (h : SdZ Γ X W CB fld rest z) (hdb : (x == ("__debug__" : Str)) = false := by decide) :
    SdZ Γ X W CB fld (.If test [.Raise (some (.Call (.Name x p) [.Constant (.str nm) jj p2] [] p3)) none p4] [] p5 :: rest) (zIf c nm z) := by
  intro hK σ env nm' w D he E k
  unfold zIf at he
  cases g1 : c env with
  | none => simp only [g1] at he; cases he
  | some q =>
    obtain ⟨b, env1⟩ := q
    have a1 : wS X (.If test [.Raise (some (.Call (.Name x p) [.Constant (.str nm) jj p2] [] p3)) none p4] [] p5) { D with nx := fun σ' H' => wSs X rest D σ' H' } σ w.H := by
      refine wS.of (ps_if pt_wT (pss_one ps_wS) pss_nil) ?_
      refine hc hK σ env b env1 w _ g1 E fun w1 E1 p1 => ?_
      cases b with
      | true =>
        simp only [g1] at he
        cases he
        exact wS_raise B tk hK.calm hg hok hdb fun dx hd => k w1 dx p1 hd
      | false =>
        simp only [g1] at he
        exact h hK σ env1 nm' w1 D he E1 fun w' dx p' hd => k w' dx (p1.trans p' E.dom) hd
    exact wSs.of (pss_cons ps_wS pss_wSs) a1
end

/-! ### a def that raises -/
/-- an __init__ by data alone that ends by the error: self is as it was -/
def spRz (Γ : Gam) (c : Nat) (C CB : Addr) (fld : Str) (zf : List D → Option Str) : Sp := fun vs H _ E => ∃ (x dx : Addr) (vs' : List V) (ds : List D) (M : Addr → Prop) (nm : Str), vs = .ref x :: vs' ∧ H x = some (.ins C dx []) ∧ M x ∧ Dats Γ M H vs' ds ∧ (∀ a, M a → H a ≠ none) ∧ zf ds = some nm ∧
  ∀ H' d, (∀ b u, b ≠ x → H b = some u → H' b = some u) → H' d = some (.xd [(fld, .str nm)]) → E (.ref CB) (some d) H'
theorem ER.init {Γ : Gam} {c : Nat} {C x dx : Addr} {ns : List Str} {M : Addr → Prop} {H : Hp} {vs : List V} {ds : List D} (hC : Γ.cls c = some (C, ns)) (hx : H x = some (.ins C dx [])) (mx : M x) (hd : Dats Γ M H vs ds) (dom : ∀ a, M a → H a ≠ none) :
    ER Γ ⟨M, fun i a => i = 0 ∧ a = x, H⟩ ((.ref x :: vs).map some) (.ins c [] :: ds.map .dat) := by
  refine ⟨by simp [hd.length], fun i s hs => ?_, fun i a h => h.2 ▸ mx, fun i j a h1 h2 => h1.1.trans h2.1.symm, dom, fun i hi a h => ?_⟩
  · match i with
    | 0 =>
      cases hs
      exact .inr ⟨.ref x, rfl, x, C, ns, dx, [], fun _ => False, rfl, hC, hx, .nil fun _ z => z, fun z => z, fun b => ⟨fun z => .inl z.2, fun z => ⟨rfl, z.elim id False.elim⟩⟩⟩
    | i + 1 =>
      rw [List.getElem?_cons_succ, List.getElem?_map] at hs
      cases q : ds[i]? with
      | none => rw [q] at hs; cases hs
      | some d =>
        rw [q] at hs
        cases hs
        obtain ⟨v, ev, rv⟩ := hd.get q
        refine .inr ⟨v, ?_, rv, fun a h => by cases h.1⟩
        simp [ev]
  · rw [h.1] at hi
    simp at hi
theorem fn_rz {Γ : Gam} {P : Program} {w : World} {mg : Str → Option Value} {base : Heap} {x qual : Str} {st : Stmt} {f : Addr} {fd : FuncData} {N ps : List Str} {k c loc : Nat} {C CB : Addr} {ns : List Str} {fld : Str} {z : Env Γ → Option Str} (F : Fun Γ.K x qual st f fd) (S : FnScope N ps (defScope st)) (hl : N.length - ps.length = loc)
    (hC : Γ.cls c = some (C, ns)) (hb : ∀ (cdv : Value) (Ar : Around) (outer : List PySem.Env) (s : Shared) (H : Hp) (E : XK), Room k (Ar.deeper (PyProof.Rows.envOfC qual (defScope st) s.heap.objs.size f cdv)) →
      Takes (cxOf (L2.CX P w) P w Γ.K mg base N qual (defScope st) f cdv Ar outer s H E) (fun cls d _ H' => E cls d H') → SdZ Γ (cxOf (L2.CX P w) P w Γ.K mg base N qual (defScope st) f cdv Ar outer s H E) (fun cls d _ H' => E cls d H') CB fld (defBody st) z) :
    FnOk P w Γ.K mg base (L2.CX P w) (k + 1) f fd ps (spRz Γ c C CB fld fun ds => if ds.length + 1 = ps.length then z (.ins c [] :: ds.map .dat ++ List.replicate loc .none) else none) := by
  obtain ⟨oc, od, kV, doc, pm, an, cdv, ct, osl, rfl, lk, hcd⟩ := F.ex
  refine fn_of lk hcd S (fun vs H Q E h => ?_) fun Ar outer s H vs Q E hr h => ?_
  · obtain ⟨y, dy, vs', ds, M, nm, rfl, _, _, hd, _, hz, _⟩ := h
    dsimp only at hz
    split at hz
    · rename_i hn
      rw [List.length_cons, hd.length]; exact hn
    · cases hz
  · obtain ⟨y, dy, vs', ds, M, nm, rfl, hy, my, hd, dom, hz, hE⟩ := h
    dsimp only at hz
    split at hz
    · rename_i hn
      have tk : Takes (cxOf (L2.CX P w) P w Γ.K mg base N qual (defScope st) f cdv Ar outer s H E) (fun cls d _ H' => E cls d H') := takes_of rfl rfl rfl rfl
      refine ⟨_, pss_wSs, ?_⟩
      have Gx : Gd Γ (cxOf (L2.CX P w) P w Γ.K mg base N qual (defScope st) f cdv Ar outer s H E) := ⟨rfl, rfl, by have := hr.un; show (Ar.deeper (PyProof.Rows.envOfC qual (defScope st) s.heap.objs.size f cdv)).units + 65 < cLine; omega, S.nd⟩
      have lv : (V.ref y :: vs').length = ps.length := by rw [List.length_cons, hd.length]; exact hn
      have es : L2.start N (.ref y :: vs') = (V.ref y :: vs').map some ++ List.replicate (N.length - ps.length) none := by unfold L2.start; rw [lv]
      rw [es, hl]
      refine hb cdv Ar outer s H E hr tk Gx _ _ nm ⟨M, fun i a => i = 0 ∧ a = y, H⟩ _ hz ((ER.init hC hy my hd dom).extend loc) fun w' dx p' hdx => ?_
      refine hE _ dx (fun b u hb' hu => ?_) upd_same
      have := p'.keep b u (fun i z => hb' z.2) hu
      rw [upd_ne (ne_of_none this hdx)]
      exact this
    · cases hz
end G

/-! L5: try: C(..) / except E1: .. / except E2 as n: t = n.f -/
namespace G
open PySem L2 PySem.Spec PyProof.Rows

/-- the first clause never fits, the second always; slot i is the name of the second -/
def wNA (K : PySem.W.Frag) (c1 c2 : Value) (i : Nat) (ts : Addr → Value → Option Addr → TS) (D : Ends) : WX := fun cls d σ H =>
  PySem.W.exmOne K cls c1 = some false ∧ PySem.W.exmOne K cls c2 = some true ∧ ∀ a, H a = none →
    ts a cls d { nx := fun σ' H' => D.nx (σ'.set i none) H', rt := D.rt, bk := fun σ' H' => D.bk (σ'.set i none) H', ct := fun σ' H' => D.ct (σ'.set i none) H' } (σ.set i (some (.ref a))) H
section
variable {X : Cx} {x1 x2 n : Str} {c1 c2 : Value} {i : Nat} {body st1 suite : List Stmt} {b0 b1 : Stmt} {np1 np2 pos pos1 pos2 : Pos} {tb : WX → TS} {ts : Addr → Value → Option Addr → TS}
theorem ps_try_na (hst : X.stack = X.env :: X.outer) (hfr : X.env.frame = some X.env.locals) (nd : X.N.Nodup) (hin : X.N[i]? = some n) (hloc : X.env.kindOf n = some .local) (m1 : Names X x1 c1) (m2 : Names X x2 c2)
    (hbd : ∀ (W : WX) (pn : List (Addr × Obj)) (xe : Value → Shared → Prop), Takes (X.tr pn xe) W → PassesOwn (model X.prog X.w) X.A X.env xe → PSs (X.tr pn xe) body (tb W))
    (hsu : ∀ (a : Addr) (oe : Obj) (cls : Value) (d : Option Addr) (pn : List (Addr × Obj)), Zc cls d oe → (∃ vs, oe.data = .fields vs) → PSs (X.suite a ((a, oe) :: pn)) (b0 :: suite) (ts a cls d)) :
    PS X (.Try body [.ExceptHandler (some (.Name x1 np1)) none (b1 :: st1) pos1, .ExceptHandler (some (.Name x2 np2)) (some n) (b0 :: suite) pos2] [] [] pos) (fun D σ H => tb (wNA X.K c1 c2 i ts D) D σ H) := by
  refine ⟨fun pins s σ H D I h => ?_⟩
  have okx := I.ok
  have frm : X.A.frames = some (X.env :: X.outer) := by rw [okx.frames, hst]
  refine wpAny_Try_except ?_
  let hds : List ExceptHandler := [.ExceptHandler (some (.Name x1 np1)) none (b1 :: st1) pos1, .ExceptHandler (some (.Name x2 np2)) (some n) (b0 :: suite) pos2]
  have bodyrun := (hbd (wNA X.K c1 c2 i ts D) (X.pn ++ pins) (fun e s1 => wpAny (model X.prog X.w) X.A (noteFrame e X.env) (fun _ s2 => wpAny (model X.prog X.w) X.A (setFlight e none) (fun _ s3 =>
    wpAny (model X.prog X.w) X.A (handleBy e X.env hds) (SP X pins D) X.xe s3) X.xe s2) X.xe s1) (fun u s' xx => ?ct) PassesOwn.looking).run [] s σ H D (I.toTry _) h
  case ct =>
    obtain ⟨a, B, sI, pins', σ', H', cls, d, rfl, Jt, nb, up, sky, na, os, ag, e1, e2, yes⟩ := xx
    have Jx : Inv X pins σ' H' sI := Jt.ofTry okx
    have skx : Sky B (X.env :: X.outer) a (Zc cls d) X.env.locals s'.heap := by rw [← hst]; exact sky
    show wpAny (model X.prog X.w) X.A (noteFrame (.ref a) X.env) _ _ _
    refine Sky.land Zc.steady frm hfr skx fun ha fla upa => ?_
    have Ja : Inv X pins σ' H' { s' with heap := ha } := Jx.landed nb fla.1 (up.trans upa) os ag
    obtain ⟨oa, va, hea, hza, hda⟩ := fla.there
    have nofr : a ∉ frs (X.env :: X.outer) := fun hm => by
      obtain ⟨_, o', e', hnf⟩ := fla.2.2.1.mem hm
      rw [hea] at e'
      cases e'
      exact hnf _ hda
    have nL : a ≠ X.env.locals := fun z => nofr (List.mem_filterMap.mpr ⟨X.env, by simp, by rw [hfr, z]⟩)
    have nF : a ∉ X.fs := fun hm => by
      obtain ⟨en, hen, q⟩ := List.mem_filterMap.mp hm
      exact nofr (List.mem_filterMap.mpr ⟨en, by simp [hen], q⟩)
    have Sa := Ja.suite hea hda na nL nF
    have LT : PySem.W.Looks (model X.prog X.w) ha (typeOf (.ref a)) cls := fun A Q E s k q => wpAny_typeOf_ref (k _ _ hea) (by rw [hza.1]; exact q)
    have named : ∀ {y : Str} {c : Value} {np : Pos} {Q : Value → Shared → Prop} {E : Value → Shared → Prop}, Names X y c → Q c { s' with heap := ha } → wpAny (model X.prog X.w) (X.A.mark (some (.ref a))) (eval (.Name y np) X.env) Q E { s' with heap := ha } := fun {y c np Q E} hn q => by
      obtain ⟨hg, hdbg, hm | ⟨hm, hv, hnn⟩⟩ := hn
      · exact ld_glob (X := X.suite a ((a, oa) :: (X.pn ++ pins))) Sa hg hm q hdbg
      · exact ld_blt (X := X.suite a ((a, oa) :: (X.pn ++ pins))) Sa hg hm hv q hnn hdbg
    refine wpAny_handleBy_cons (codeAny_handlers_test ?_) (by intro q; cases q)
    refine named m1 ((PySem.W.exm_one (M := model X.prog X.w) (Ja.kIn) LT e1).here ?_)
    show wpAny _ X.A (handleBy (.ref a) X.env [.ExceptHandler (some (.Name x2 np2)) (some n) (b0 :: suite) pos2]) _ _ _
    refine wpAny_handleBy_cons (codeAny_handlers_test ?_) (by intro q; cases q)
    refine named m2 ((PySem.W.exm_one (M := model X.prog X.w) (Ja.kIn) LT e2).here ?_)
    refine codeAny_handlers_suite_as ?_
    refine HandSPX.lands_againZ fla fun hb flb upb => ?_
    have Jb : Inv X pins σ' H' { s' with heap := hb } := Jx.landed nb flb.1 ((up.trans upa).trans upb) os ag
    obtain ⟨ob, vb, heb, hzb, hdb⟩ := flb.there
    have Sb := Jb.suite heb hdb na nL nF
    refine store_ok (X := X.suite a ((a, ob) :: (X.pn ++ pins))) (v := .ref a) Sb nd hin (.inl hloc) rfl (fun sc Sc => ?_) (.inr hloc)
    refine wpAny_mono ((hsu a ob cls d (X.pn ++ pins) hzb ⟨_, hdb⟩).run [] sc _ H' _ Sc (yes a na)) (fun f sd hsp => ?_) (fun _ _ z => False.elim z)
    have gone : ∀ {σe : L2.St} {He : Hp} {Q : Shared → Prop}, Inv (X.suite a ((a, ob) :: (X.pn ++ pins))) [] σe He sd → (∀ sg, Inv X pins (σe.set i none) He sg → Q sg) →
        wpAny (model X.prog X.w) X.A (do bindName X.env n .none; unbindBehindTheSuite X.env n pos2) (fun _ sg => Q sg) X.xe sd := fun {σe He Q} Se hq => gone_ok (Se.unsuite okx) nd hin hloc hq
    match f, hsp with
    | .next, ⟨σe, He, Se, qe⟩ => exact gone Se fun sg Jg => ⟨_, _, Jg, qe⟩
    | .brk, ⟨σe, He, Se, qe⟩ => exact gone Se fun sg Jg => ⟨_, _, Jg, qe⟩
    | .cont, ⟨σe, He, Se, qe⟩ => exact gone Se fun sg Jg => ⟨_, _, Jg, qe⟩
    | .ret u, ⟨ve, σe, He, Se, re, qe⟩ => exact gone Se fun sg Jg => ⟨_, _, _, Jg, re, qe⟩
  refine wpAny_mono bodyrun (fun f s1 hsp => ?_) (fun e s1 he => he)
  match f, hsp with
  | .next, ⟨σ', H', Jt, q⟩ => exact wpAny_execs_nil ⟨σ', H', Jt.ofTry okx, q⟩
  | .brk, ⟨σ', H', Jt, q⟩ => exact ⟨σ', H', Jt.ofTry okx, q⟩
  | .cont, ⟨σ', H', Jt, q⟩ => exact ⟨σ', H', Jt.ofTry okx, q⟩
  | .ret u, ⟨v, σ', H', Jt, r, q⟩ => exact ⟨v, σ', H', Jt.ofTry okx, r, q⟩
end
end G

/-! L6: the two tries by data -/
namespace G
open PySem L2

def datsOf {Γ : Gam} : List (Sl Γ) → Option (List D)
  | [] => some []
  | .dat d :: ss => (datsOf ss).map (d :: ·)
  | _ :: _ => none
/-- what is raised by C(..), the arguments being data -/
def zMake {Γ : Gam} (zf : List D → Option Str) (n : Nat) (pre : List D) (as : List (AE Γ)) (env : Env Γ) : Option (Str × Env Γ) :=
  match evAs as env with
  | none => none
  | some (xs, env1) => match peeks (insA n pre xs) env1 with
    | none => none
    | some ss => match datsOf ss with
      | none => none
      | some ds => (zf ds).map fun nm => (nm, env1)
theorem SRs.dats {Γ : Gam} {M : Addr → Prop} {H : Hp} : ∀ {vs : List V} {ss : List (Sl Γ)} {ds : List D}, SRs Γ M H vs ss → datsOf ss = some ds → Dats Γ M H vs ds
  | _, _, _, .nil, e => by cases e; exact .nil
  | _, .dat d :: ss, _, .cons h r, e => by
    unfold datsOf at e
    cases q : datsOf ss with
    | none => rw [q] at e; cases e
    | some ds => rw [q] at e; cases e; exact .cons h.1 (SRs.dats r q)
  | _, .none :: _, _, .cons h r, e => by cases e
  | _, .scr _ :: _, _, .cons h r, e => by cases e
  | _, .lst _ :: _, _, .cons h r, e => by cases e
  | _, .dic _ :: _, _, .cons h r, e => by cases e
  | _, .ins _ _ :: _, _, .cons h r, e => by cases e
  | _, .obj _ :: _, _, .cons h r, e => by cases e
/-- the raising __init__ of a class, and the error's class -/
structure MkZ (Γ : Gam) (X : Cx) (c : Nat) (x : Str) (CB : Addr) (fld : Str) (zf : List D → Option Str) (ks : List Str) (n1 : Nat) (pre : List D) : Prop where
  ex : ∃ C ns k f fd ps, Γ.cls c = some (C, ns) ∧ Mk X.K C f ∧ X.mg x = some (.ref C) ∧ FnOk X.prog X.w X.K X.mg X.base (L2.CX X.prog X.w) k f fd ps (spRz Γ c C CB fld zf) ∧ Room (k + 1) X.A ∧ KBd Γ X.K fd ps ks n1 pre
section
variable {Γ : Gam} {X : Cx} {W : WX} {CB : Addr} {fld : Str} {c n : Nat} {x : Str} {zf : List D → Option Str} {pre : List D} {as : List (AE Γ)} {e : Expr} {es : List Expr} {kws : List Keyword} {ks : List Str} {p pos : Pos}
theorem wE_raise {σ : St} {env env1 : Env Γ} {nm : Str} {w : Wd} {Q : VK} (h : MkZ Γ X c x CB fld zf ks (n + 1) pre) (tk : Takes X W) (hK : Gd Γ X) (hg : Gl X x) (ha : SdL Γ X (e :: es ++ kws.map (·.value)) as) (hl1 : (e :: es).length = n) (hl2 : kws.length = ks.length)
    (hdb : (x == ("__debug__" : Str)) = false) (hall : (backToKw pos (keywordEach kws X.env)).all (·.1.isSome) = true) (hks : (backToKw pos (keywordEach kws X.env)).filterMap (·.1) = ks)
    (hpl : ((backTo pos (starEach (e :: es) X.env)).any (·.1) || (backToKw pos (keywordEach kws X.env)).any (·.1.isNone)) = false) (he : zMake zf n pre as env = some (nm, env1)) (E : ER Γ w σ env)
    (k : ∀ w' H' d, ER Γ w' σ env1 → Step w w' → w'.H = H' → H' d = some (.xd [(fld, .str nm)]) → W (.ref CB) (some d) σ H') : wE X (.Call (.Name x p) (e :: es) kws pos) σ w.H Q := by
  obtain ⟨C, ns, k0, f, fd, ps, h1, h2, h3, h4, h5, pv, pu, rp, dp, hb⟩ := h
  have hns := ha.ns
  refine wE_make (E := WE W σ) (n := n) h2 h4 h5 hg h3 rp hb (passAt tk σ) (fun y hy => hns y (List.mem_append_left _ hy)) hall hks hdb hpl ?_
  unfold zMake at he
  cases g1 : evAs as env with
  | none => simp only [g1] at he; cases he
  | some q =>
    obtain ⟨xs, env2⟩ := q
    simp only [g1] at he
    cases g2 : peeks (insA n pre xs) env2 with
    | none => simp only [g2] at he; cases he
    | some ss =>
      simp only [g2] at he
      cases g3 : datsOf ss with
      | none => simp only [g3] at he; cases he
      | some ds =>
        simp only [g3] at he
        cases g4 : zf ds with
        | none => rw [g4] at he; cases he
        | some nm' =>
          rw [g4] at he
          cases he
          have q : wL X (e :: es ++ kws.map (·.value)) σ w.H fun vs H1 => ∀ y dy, H1 y = none → H1 dy = none → dy ≠ y → spRz Γ c C CB fld zf (.ref y :: (vs.take n ++ (pv ++ vs.drop n))) (upd (upd H1 dy (.own y)) y (.ins C dy [])) (fun v H3 => v = .non ∧ Q (.ref y) H3) (WE W σ) := by
            refine sdl_run hK ha g1 E fun vs w1 Frs0 E1 A0 p1 f0 y dy hy hdy hne => ?_
            obtain ⟨Frs, A1, _⟩ := ARs.ins (dp w1.M w1.H) n A0
            have S := (A1.peeks E1 g2).dats g3
            have ext : ∀ b u, w1.H b = some u → upd (upd w1.H dy (.own y)) y (.ins C dy []) b = some u := fun b u e => by rw [upd_ne (ne_of_none e hy), upd_ne (ne_of_none e hdy)]; exact e
            obtain ⟨E2, p2⟩ := E1.grow (Fr := fun b => b = y) ext (fun b z => by subst z; exact ⟨hy, by rw [upd_same]; simp⟩)
            refine ⟨y, dy, _, ds, fun a => w1.M a ∨ a = y, nm, rfl, upd_same, .inr rfl, S.go (E1.go p2), E2.dom, g4, fun H' d kp hd => ?_⟩
            have kp' : ∀ b u, w1.H b = some u → H' b = some u := fun b u e => kp b u (ne_of_none e hy) (ext b u e)
            obtain ⟨E3, p3⟩ := E1.grow (Fr := fun _ => False) kp' (fun b z => z.elim)
            exact k _ H' d E3 (p1.trans p3 E.dom) rfl hd
          refine wL_imp (wL_len (wL_app (es := e :: es) q)) fun vs H1 ⟨z1, z2⟩ => ?_
          refine wL_imp (wL_len z2) fun zs H2 ⟨z3, z4⟩ => ⟨by rw [z1]; exact hl1, by rw [z3, List.length_map]; exact hl2, ?_⟩
          have lv : vs.length = n := by rw [z1]; exact hl1
          have t1 : (vs ++ zs).take n = vs := by rw [← lv]; simp
          have t2 : (vs ++ zs).drop n = zs := by rw [← lv]; simp
          rw [t1, t2] at z4
          exact z4
end
theorem ER.free {Γ : Gam} {w : Wd} {σ : St} {env : Env Γ} {i : Nat} {v : Option V} (E : ER Γ w σ env) (h : env[i]? = some .none) : ER Γ w (σ.set i v) env := by
  refine ⟨by rw [E.len, List.length_set], fun j s hs => ?_, E.sub, E.dis, E.dom, E.out⟩
  by_cases e : i = j
  · subst e
    rw [h] at hs
    cases hs
    rcases E.slot i _ h with z | ⟨u, _, z⟩
    · exact .inl z
    · exact z.elim
  · rcases E.slot j s hs with z | ⟨u, e1, e2⟩
    · exact .inl z
    · exact .inr ⟨u, by rw [List.getElem?_set_ne e]; exact e1, e2⟩
/-- try: C(..) / except E1: .. / except E2 as n: t = n.f (t at it, n at ie) -/
def mTryR {Γ : Gam} (f : Ev Γ) (z : Env Γ → Option (Str × Env Γ)) (it ie : Nat) : Es Γ := fun env =>
  match f env with
  | some (_, env') => some (.nx, env')
  | none => match z env with
    | none => none
    | some (nm, env1) => if it < env1.length ∧ ie < env1.length ∧ it ≠ ie then some (.nx, (env1.set it (.dat (.str nm))).set ie .none) else none
/-- try: C(..) / except E: return True -/
def mTryC {Γ : Gam} (f : Ev Γ) (z : Env Γ → Option (Str × Env Γ)) : Es Γ := fun env =>
  match f env with
  | some (_, env') => some (.nx, env')
  | none => match z env with
    | none => none
    | some (_, env1) => some (.rt (.dat (.bl true)), env1)
end G

/-! L7: the two tries as statements -/
namespace G
open PySem L2

theorem MkZ.tr {Γ : Gam} {X : Cx} {c : Nat} {x : Str} {CB : Addr} {fld : Str} {zf : List D → Option Str} {ks : List Str} {n1 : Nat} {pre : List D} (h : MkZ Γ X c x CB fld zf ks n1 pre) (pn : List (Addr × Obj)) (xe : Value → Shared → Prop) : MkZ Γ (X.tr pn xe) c x CB fld zf ks n1 pre := ⟨h.ex⟩
theorem MkK.tr {Γ : Gam} {X : Cx} {c np : Nat} {x : Str} {g : Fn Γ} {ks : List Str} {n1 : Nat} {pre : List D} (h : MkK Γ X c x np g ks n1 pre) (pn : List (Addr × Obj)) (xe : Value → Shared → Prop) : MkK Γ (X.tr pn xe) c x np g ks n1 pre := ⟨h.ex⟩
theorem Gd.tr {Γ : Gam} {X : Cx} (h : Gd Γ X) (pn : List (Addr × Obj)) (xe : Value → Shared → Prop) : Gd Γ (X.tr pn xe) := ⟨h.k, h.calm, h.un, h.nd⟩
section
variable {Γ : Gam} {X : Cx} {A : List Nat} {CB : Addr} {fld : Str} {c np n : Nat} {g : Fn Γ} {x x1 x2 nm told : Str} {c1 c2 : Value} {zf : List D → Option Str} {pre : List D} {as : List (AE Γ)} {e : Expr} {es : List Expr} {kws : List Keyword} {ks : List Str} {p pos ep np1 np2 hp1 hp2 tpos tp nnp ap sp rp : Pos} {b1 : Stmt} {st1 : List Stmt}
theorem sds_tryR {it ie : Nat} (hs : MkK Γ X c x np g ks (n + 1) pre) (hz : MkZ Γ X c x CB fld zf ks (n + 1) pre) (hg : Gl X x) (ha : ∀ pn xe, SdL Γ (X.tr pn xe) (e :: es ++ kws.map (·.value)) as) (hl1 : (e :: es).length = n) (hl2 : kws.length = ks.length)
    (hst : X.stack = X.env :: X.outer) (hfr : X.env.frame = some X.env.locals) (hA1 : it ∈ A) (hA2 : ie ∈ A) (hin : X.N[ie]? = some nm) (hloc : X.env.kindOf nm = some .local) (hit : X.N[it]? = some told) (hlt : X.env.scope.names.lookup told = some .local) (m1 : Names X x1 c1) (m2 : Names X x2 c2)
    (f1 : PySem.W.exmOne X.K (.ref CB) c1 = some false) (f2 : PySem.W.exmOne X.K (.ref CB) c2 = some true) (T : XfC X.K CB) (hno : PySem.W.findIn X.K (.ref CB) fld = some none)
    (hdb : (x == ("__debug__" : Str)) = false := by decide) (hall : (backToKw pos (keywordEach kws X.env)).all (·.1.isSome) = true := by rfl) (hks : (backToKw pos (keywordEach kws X.env)).filterMap (·.1) = ks := by rfl)
    (hpl : ((backTo pos (starEach (e :: es) X.env)).any (·.1) || (backToKw pos (keywordEach kws X.env)).any (·.1.isNone)) = false := by rfl)
    (hsw : swapsWith (.Call (.Name x p) (e :: es) kws pos) none ep.line X.env = pure false := by rfl) (hsa : swapsWith (.Attribute (.Name nm nnp) fld ap) (some (.Name told tp)) sp.line X.env = pure false := by rfl)
    (hab : attributeBase (.Name nm nnp) fld X.env (eval (.Name nm nnp) X.env) = eval (.Name nm nnp) X.env := by rfl) (hnd : (nm == ("__debug__" : Str)) = false := by decide) (hnc : (nm == ("__classdict__" : Str)) = false := by decide) :
    SdS Γ X A (.Try [.Expr (.Call (.Name x p) (e :: es) kws pos) ep] [.ExceptHandler (some (.Name x1 np1)) none (b1 :: st1) hp1, .ExceptHandler (some (.Name x2 np2)) (some nm) [.Assign [.Name told tp] (.Attribute (.Name nm nnp) fld ap) sp] hp2] [] [] tpos)
      (mTryR (mMakeK c np g n pre as) (zMake zf n pre as) it ie) := by
  intro hK σ env fl env' w D he E k
  refine wS.of (ps_try_na (tb := fun W D σ H => ∀ pn xe, Takes (X.tr pn xe) W → wSs (X.tr pn xe) [.Expr (.Call (.Name x p) (e :: es) kws pos) ep] D σ H) hst hfr hK.nd hin hloc m1 m2
    (fun W pn xe tk _ => ⟨fun pins s σ H D I h => h pn xe tk pins s I⟩) (fun a oe cls d pn hzc hfs => pss_one (ps_set (i := it) (X := X.suite a ((a, oe) :: pn)) hK.nd hit (.inl hlt) (pe_xf T hno hzc hfs (pe_var (X := X.suite a ((a, oe) :: pn)) (i := ie) hin (.inl hloc) hnd hnc) hab) hsa (.inr hlt)))) ?_
  intro pn xe tk
  unfold mTryR at he
  cases g1 : mMakeK c np g n pre as env with
  | some q =>
    obtain ⟨s1, env1⟩ := q
    simp only [g1] at he
    cases he
    have q := sds_expr (A := A) (pos := ep) (sd_makeK (X := X.tr pn xe) (p := p) (pos := pos) (hs.tr pn xe) hg (ha pn xe) hl1 hl2 hdb hall hks hpl) hsw
    refine wSs.of (pss_one ps_wS) (q (hK.tr pn xe) σ env .nx _ w D (by simp only [mDrop, g1, Option.map_some]) E k)
  | none =>
    simp only [g1] at he
    cases g2 : zMake zf n pre as env with
    | none => simp only [g2] at he; cases he
    | some q =>
      obtain ⟨nx, env1⟩ := q
      simp only [g2] at he
      split at he
      · rename_i hlen
        cases he
        refine wSs.of (pss_one (ps_expr pe_wE hsw)) ?_
        refine wE_raise (hz.tr pn xe) tk (hK.tr pn xe) hg (ha pn xe) hl1 hl2 hdb hall hks hpl g2 E fun w' H' d E' p' eh hd => ?_
        subst eh
        refine ⟨f1, f2, fun a hn => ?_⟩
        have li : ie < σ.length := by rw [← E'.len]; exact hlen.2.1
        refine ⟨.ref a, by rw [List.getElem?_set_self li], rfl, rfl, d, _, .str nx, rfl, hd, by rw [List.lookup_cons]; simp, ?_⟩
        have E2 := (E'.set (v := .str nx) (i := it) (TR.dat (.str nx)) hlen.1)
        have E3 := E2.moved ie
        have E4 := E3.free (i := ie) (v := none) (by rw [List.getElem?_set_self (by rw [List.length_set]; exact hlen.2.1)])
        have p2 := p'.set (i := it) (Fr := fun _ => False) (fun _ z => z.elim)
        have ec : ((σ.set ie (some (.ref a))).set it (some (V.str nx))).set ie none = (σ.set it (some (.str nx))).set ie none := by
          rw [List.set_comm _ _ (Ne.symm hlen.2.2), List.set_set]
        show D.nx (((σ.set ie (some (.ref a))).set it (some (V.str nx))).set ie none) w'.H
        rw [ec]
        exact k _ ⟨w'.M, fun j a => (if j = it then False else w'.F j a) ∧ j ≠ ie, w'.H⟩ E4 ⟨p2.keep, p2.mu, p2.src, fun i a f => p2.own i a f.1, p2.live⟩ ((Agree.set hA1).trans (Agree.set hA2))
      · cases he
theorem sds_tryC {jj : Nat} (hs : MkK Γ X c x np g ks (n + 1) pre) (hz : MkZ Γ X c x CB fld zf ks (n + 1) pre) (hg : Gl X x) (ha : ∀ pn xe, SdL Γ (X.tr pn xe) (e :: es ++ kws.map (·.value)) as) (hl1 : (e :: es).length = n) (hl2 : kws.length = ks.length)
    (hst : X.stack = X.env :: X.outer) (hfr : X.env.frame = some X.env.locals) (m1 : Names X x1 c1) (f1 : PySem.W.exmOne X.K (.ref CB) c1 = some true)
    (hdb : (x == ("__debug__" : Str)) = false := by decide) (hall : (backToKw pos (keywordEach kws X.env)).all (·.1.isSome) = true := by rfl) (hks : (backToKw pos (keywordEach kws X.env)).filterMap (·.1) = ks := by rfl)
    (hpl : ((backTo pos (starEach (e :: es) X.env)).any (·.1) || (backToKw pos (keywordEach kws X.env)).any (·.1.isNone)) = false := by rfl)
    (hsw : swapsWith (.Call (.Name x p) (e :: es) kws pos) none ep.line X.env = pure false := by rfl) :
    SdS Γ X A (.Try [.Expr (.Call (.Name x p) (e :: es) kws pos) ep] [.ExceptHandler (some (.Name x1 np1)) none [.Return (some (.Constant (.bool true) jj rp)) sp] hp1] [] [] tpos) (mTryC (mMakeK c np g n pre as) (zMake zf n pre as)) := by
  intro hK σ env fl env' w D he E k
  refine wS.of (ps_try_only (tb := fun W D σ H => ∀ pn xe, Takes (X.tr pn xe) W → wSs (X.tr pn xe) [.Expr (.Call (.Name x p) (e :: es) kws pos) ep] D σ H) (Wout := fun _ _ _ _ => False) hst hfr m1 (fun _ _ ⟨_, _, _, _, _, _, _, _, _, _, _, _, _, _, _, _, z⟩ => z.elim)
    (fun W pn xe tk _ => ⟨fun pins s σ H D I h => h pn xe tk pins s I⟩) (fun a oe cls d pn _ _ => pss_one (ps_ret pe_bl))) ?_
  intro pn xe tk
  unfold mTryC at he
  cases g1 : mMakeK c np g n pre as env with
  | some q =>
    obtain ⟨s1, env1⟩ := q
    simp only [g1] at he
    cases he
    have q := sds_expr (A := A) (pos := ep) (sd_makeK (X := X.tr pn xe) (p := p) (pos := pos) (hs.tr pn xe) hg (ha pn xe) hl1 hl2 hdb hall hks hpl) hsw
    refine wSs.of (pss_one ps_wS) (q (hK.tr pn xe) σ env .nx _ w D (by simp only [mDrop, g1, Option.map_some]) E k)
  | none =>
    simp only [g1] at he
    cases g2 : zMake zf n pre as env with
    | none => simp only [g2] at he; cases he
    | some q =>
      obtain ⟨nx, env1⟩ := q
      simp only [g2] at he
      cases he
      refine wSs.of (pss_one (ps_expr pe_wE hsw)) ?_
      refine wE_raise (hz.tr pn xe) tk (hK.tr pn xe) hg (ha pn xe) hl1 hl2 hdb hall hks hpl g2 E fun w' H' d E' p' eh hd => ?_
      subst eh
      exact ⟨true, f1, fun _ a hn => k (.bl true) σ w' (fun _ => False) E' (TR.dat (.bl true)) p' (fun _ z => z.elim) Agree.refl, fun z => by cases z⟩
end
end G

/-! L8: isinstance by two types, a class's constants, str(int), range by steps, upper, a list n times, dict displays, len(set(ints)) -/
namespace G
open PySem L2

/-! ### isinstance(x, (list, tuple)) -/
def isLT : D → Option Bool
  | .lst _ => some true
  | .tup _ => some true
  | .ins _ _ => none
  | _ => some false
theorem isLT_kit {K : PySem.W.Frag} {d : D} {b : Bool} (h : isLT d = some b) : ∃ a, d.ty = some a ∧ PySem.W.kitAny K (.type a) [.type "list", .type "tuple"] = some b := by
  cases d <;> first
    | (cases h; refine ⟨_, rfl, kitAny_cons (b := false) (kit_ty (by decide +kernel)) (fun _ => kitAny_cons (b := false) (kit_ty (by decide +kernel)) (fun _ => rfl) (fun z => by cases z)) (fun z => by cases z)⟩)
    | (cases h; refine ⟨_, rfl, kitAny_cons (b := true) (kit_ty (by decide +kernel)) (fun z => by cases z) (fun _ => rfl)⟩)
    | (cases h; refine ⟨_, rfl, kitAny_cons (b := false) (kit_ty (by decide +kernel)) (fun _ => kitAny_cons (b := true) (kit_ty (by decide +kernel)) (fun z => by cases z) (fun _ => rfl)) (fun z => by cases z)⟩)
    | cases h
def pIsLT {Γ : Gam} (s : Sl Γ) : Option (Sl Γ) :=
  match s.view with
  | some d => (isLT d).map db
  | none => none
section
variable {Γ : Gam} {X : Cx} {A : List Nat} {a b c e : Expr} {es : List Expr} {fa fb : AE Γ} {f g h : Ev Γ} {pos : Pos}
theorem sd_isLT {p p1 p2 p3 : Pos} {kk : Nat} (hg : Gl X "isinstance") (hm : X.mg "isinstance" = none) (hgl : Gl X "list") (hml : X.mg "list" = none) (hgt : Gl X "tuple") (hmt : X.mg "tuple" = none) (ha : SdA Γ X a fa) (na : NS X a) :
    SdE Γ X (.Call (.Name "isinstance" p) [a, .Tuple [.Name "list" p1, .Name "tuple" p2] kk p3] [] pos) (m1 pIsLT fa) := by
  intro hK σ env r env' w Q he E k
  unfold m1 at he
  cases g1 : evA fa env with
  | none => simp only [g1] at he; cases he
  | some q =>
    obtain ⟨x, env1⟩ := q
    simp only [g1] at he
    cases g2 : peek x env1 with
    | none => simp only [g2] at he; cases he
    | some s =>
      simp only [g2] at he
      cases g3 : s.view with
      | none => simp only [pIsLT, g3] at he; cases he
      | some d =>
        cases g4 : isLT d with
        | none => simp only [pIsLT, g3, g4] at he; cases he
        | some bb =>
          simp only [pIsLT, g3, g4, Option.map_some] at he
          cases he
          refine wE.of (pe_callB (id := "isinstance") (x := "isinstance") call_isiT hg hm PyProof.Rows.boot_isinstance (pa_cons pe_wE (pa_cons (pe_tup (pa_cons (pe_bltn (v := .ty "list") hgl hml (by decide +kernel) rfl) (pa_cons (pe_bltn (v := .ty "tuple") hgt hmt (by decide +kernel) rfl) pa_nil))) pa_nil) (na _)) (by decide) (by decide) (na _)) ?_
          refine sda_run ha hK g1 E fun v w1 Fr E1 A1 p1 f1 => ?_
          refine ⟨by show 2 ≤ sizeLine; decide, fun tp htp => ?_⟩
          obtain ⟨E2, p2⟩ := E1.grow (Fr := fun _ => False) (upd_keep (o := .tup [.ty "list", .ty "tuple"]) htp) (fun _ z => z.elim)
          obtain ⟨G', R⟩ := (A1.step E1 p2).peek E2 g2
          obtain ⟨t, h1, h2⟩ := isLT_kit (K := X.K) g4
          refine ⟨v, tp, _, .type t, _, bb, rfl, upd_same, .cons (.ty "list") (.cons (.ty "tuple") .nil), hK.k ▸ R.tyx g3 h1, h2, ?_⟩
          exact k _ _ (fun _ => False) E2 (TR.dat (.bl bb)) (p1.trans p2 E.dom) fun _ z => z.elim
/-! ### C.f, a constant -/
structure ClI (X : Cx) (x f : Str) (i : Int) : Prop where
  ex : ∃ C mc t, X.mg x = some (.ref C) ∧ ClX.CRead X.K C mc ∧ PySem.W.findCls X.K (.ref C) mc f = some (.val (.int i t))
theorem sd_cls {x fn : Str} {i : Int} {p : Pos} (hc : ClI X x fn i) (hg : Gl X x) (hb : attributeBase (.Name x p) fn X.env (eval (.Name x p) X.env) = eval (.Name x p) X.env := by rfl) (hd : (x == ("__debug__" : Str)) = false := by decide) : SdE Γ X (.Attribute (.Name x p) fn pos) (mC (.int i)) := by
  obtain ⟨C, mc, t, h1, h2, h3⟩ := hc
  intro hK σ env r env' w Q he E k
  cases he
  refine wE.of (ClX.pe_cval (pe_glob (v := .ref C) hg h1 rfl hd) hb) ⟨C, mc, .int i, .int i t, rfl, h2, ⟨h3, ⟨t, rfl⟩⟩, ?_⟩
  exact k _ w (fun _ => False) E (TR.dat (.int i)) (Step.refl w) fun _ z => z.elim
/-! ### str(i) -/
def pStr {Γ : Gam} (x : Sl Γ) : Option (Sl Γ) :=
  match x.view with
  | some (.int i) => if i.natAbs.log2 < 1920 then some (ds (toString i)) else none
  | _ => none
theorem b_str : Blt Γ X (.type "str") (pN1 pStr) := by
  refine ⟨_, fun g => CallR.imp call_str_int fun xs H Q h => ?_, pN1_ok (r := fun x H Q => ∃ i : Int, x = .int i ∧ i.natAbs.log2 < 1920 ∧ Q (.str (toString i)) H) ?_⟩
  · obtain ⟨x, e, i, h1, h2, h3⟩ := h
    subst h1
    exact ⟨i, e, h2, h3⟩
  · intro M H x sx s Gx Q dom hp hx k
    unfold pStr at hp
    split at hp
    · rename_i i e1
      split at hp
      · rename_i hl
        cases hp
        exact ⟨i, hx.int e1, hl, k.dat (.str _)⟩
      · cases hp
    · cases hp
/-! ### s.upper() -/
def mUp {Γ : Gam} (f : Ev Γ) : Ev Γ := fun env =>
  match f env with
  | some (.dat (.str x), env') => if x.length ≤ 5592405 then some (.dat (.str (Txt.upper x)), env') else none
  | _ => none
theorem sd_upper {apos : Pos} (hf : SdE Γ X a f) (hbase : attributeBase a "upper" X.env (eval a X.env) = eval a X.env := by rfl) (hline : (apos.endLine == pos.line) = true := by rfl) : SdE Γ X (.Call (.Attribute a "upper" apos) [] [] pos) (mUp f) := by
  intro hK σ env r env' w Q he E k
  unfold mUp at he
  split at he
  · rename_i x env1 g1
    split at he
    · rename_i hl
      cases he
      refine wE.of (pe_upper pe_wE hbase hline) (hf hK σ env _ _ w _ g1 E fun v w1 Fr E1 T1 p1 f1 => ?_)
      cases T1.rep.str rfl
      exact ⟨⟨x, rfl⟩, x, rfl, rfl, hl, k _ w1 (fun _ => False) E1 (TR.dat (.str _)) p1 fun _ z => z.elim⟩
    · cases he
  · cases he
/-! ### xs * n -/
def pRep {Γ : Gam} (x y : Sl Γ) : Option (Sl Γ) :=
  match x.view, y.view with
  | some (.lst a), some (.int k) => match x with
    | .scr _ => none
    | _ => if a.length * k.toNat ≤ sizeLine ∧ -(2 ^ 63) ≤ k ∧ k < 2 ^ 63 then some (.lst (List.replicate k.toNat a).flatten) else none
  | _, _ => none
theorem Dats.rep {M : Addr → Prop} {H : Hp} {vs : List V} {ds : List D} (h : Dats Γ M H vs ds) : ∀ n : Nat, Dats Γ M H (List.replicate n vs).flatten (List.replicate n ds).flatten
  | 0 => .nil
  | n + 1 => by rw [List.replicate_succ, List.replicate_succ, List.flatten_cons, List.flatten_cons]; exact h.append (h.rep n)
theorem pRep_ok : Prim2 Γ rRep (pRep (Γ := Γ)) := by
  intro M H x y sx sy s Gx Gy Q dom hp hx hy k
  unfold pRep at hp
  split at hp
  · rename_i a i e1 e2
    split at hp
    · cases hp
    · rename_i n1
      split at hp
      · rename_i hl
        cases hp
        obtain ⟨p, vs, rfl, hq, r⟩ := hx.lstW e1 (fun ns z => n1 ns z)
        cases hy.int e2
        exact ⟨p, i, vs, rfl, rfl, hq, hl.2.1, hl.2.2, by rw [r.length]; exact hl.1, fun q hq => k.lst (r.rep _) hq⟩
      · cases hp
  · cases hp
theorem sd_rep (ha : SdA Γ X a fa) (hb : SdA Γ X b fb) : SdE Γ X (.BinOp a .Mult b pos) (m2 pRep fa fb) := sd_bin (fun g => op_rep) pRep_ok ha hb
/-! ### {} and {"k": i}, not looked into -/
theorem sd_odd0 : SdE Γ X (.Dict [] [] pos) (mC .odd) := by
  intro hK σ env r env' w Q he E k
  cases he
  refine wE.of pe_dnewK fun p hp => ?_
  obtain ⟨E2, p2⟩ := E.grow (Fr := fun _ => False) (upd_keep (o := .dK []) hp) (fun _ z => z.elim)
  exact k (.ref p) _ (fun _ => False) E2 ⟨⟨.odd (fun z => z.elim (fun m => E.dom p m hp) id) upd_same, fun _ z => z⟩, fun _ z => z.elim, fun _ _ z => z.elim⟩ p2 fun _ z => z.elim
theorem sd_odd1 {z : Str} {i : Int} {p1 p2 : Pos} {j1 j2 : Nat} : SdE Γ X (.Dict [some (.Constant (.str z) j1 p1)] [.Constant (.int i) j2 p2] pos) (mC .odd) := by
  intro hK σ env r env' w Q he E k
  cases he
  refine wE.of (pe_disp (pps_cons pe_str pe_int pps_nil) rfl rfl (by simp) (by simp)) fun p hp => ?_
  refine ⟨upd_same, [(.inr z, .int i)], rfl, by simp, ?_⟩
  have eu : upd (upd w.H p (.dK [])) p (.dK (mergeK [] [(.inr z, .int i)])) = upd w.H p (.dK (mergeK [] [(.inr z, .int i)])) := by
    funext b
    by_cases hb : b = p
    · subst hb; rw [upd_same, upd_same]
    · rw [upd_ne hb, upd_ne hb, upd_ne hb]
  rw [eu]
  obtain ⟨E2, p2⟩ := E.grow (Fr := fun _ => False) (upd_keep (o := .dK (mergeK [] [(.inr z, .int i)])) hp) (fun _ z => z.elim)
  exact k (.ref p) _ (fun _ => False) E2 ⟨⟨.odd (fun z => z.elim (fun m => E.dom p m hp) id) upd_same, fun _ z => z⟩, fun _ z => z.elim, fun _ _ z => z.elim⟩ p2 fun _ z => z.elim
end
end G

/-! L9: range by steps, len(set(ints)), f-strings -/
namespace G
open PySem L2
section
variable {Γ : Gam} {X : Cx} {A : List Nat} {a b c e : Expr} {es : List Expr} {fa fb fc : Ev Γ} {pos : Pos}
/-! ### range(0, n, c) -/
def stepN (j c : Int) : Nat := if 0 < j then ((j - 1) / c + 1).toNat else 0
def iRng3 {Γ : Gam} (f g : Ev Γ) : Ei Γ := fun env =>
  match f env with
  | some (.dat (.int j), env1) => match g env1 with
    | some (.dat (.int c), env2) => if 0 ≤ j ∧ j ≤ 2 ^ 40 ∧ 0 < c ∧ c ≤ 1000 then some ((List.range (stepN j c)).map fun (k : Nat) => D.int ((k : Int) * c), env2) else none
    | _ => none
  | _ => none
theorem rgc_up {j c : Int} (h0 : 0 ≤ j) (h1 : j ≤ 2 ^ 40) (h2 : 0 < c) (h3 : c ≤ 1000) : RgC 0 j c (stepN j c) := by
  have hq : 0 < j → 0 ≤ (j - 1) / c ∧ (j - 1) / c ≤ j - 1 ∧ ((j - 1) / c + 1) * c ≤ j - 1 + c ∧ 0 ≤ (j - 1) / c * c := fun hj => by
    have d1 : 0 ≤ (j - 1) / c := Int.ediv_nonneg (by omega) (by omega)
    have d2 : (j - 1) / c * c ≤ j - 1 := Int.ediv_mul_le _ (by omega)
    have d3 : (j - 1) / c ≤ j - 1 := Int.ediv_le_self _ (by omega)
    refine ⟨d1, d3, ?_, Int.mul_nonneg d1 (by omega)⟩
    rw [Int.add_mul, Int.one_mul]
    omega
  have rs : Builtin.Range.rangeSize 0 j c = (stepN j c : Nat) := by
    unfold Builtin.Range.rangeSize stepN
    rw [if_pos (show c > 0 from h2)]
    by_cases hj : 0 < j
    · rw [if_pos hj, if_pos hj, Int.sub_zero]
      have := (hq hj).1
      omega
    · rw [if_neg hj, if_neg hj]; rfl
  refine ⟨by omega, by omega, ?_, rs⟩
  unfold Builtin.Range.small
  rw [rs]
  unfold stepN
  simp only [Builtin.Range.rangeFitsLong, Bool.and_eq_true, Bool.or_eq_true, decide_eq_true_eq, beq_iff_eq, show c > 0 from h2, if_true]
  by_cases hj : 0 < j
  · obtain ⟨q1, q2, q3, q4⟩ := hq hj
    simp only [hj, if_true]
    have e : (((j - 1) / c + 1).toNat : Int) = (j - 1) / c + 1 := by omega
    rw [e]
    have q5 : ((j - 1) / c + 1) * c = (j - 1) / c * c + c := by rw [Int.add_mul, Int.one_mul]
    generalize (j - 1) / c = qq at *
    first
      | omega
      | (refine ⟨⟨⟨?_, ?_⟩, ?_⟩, ?_⟩ <;> omega)
      | (split <;> omega)
      | (constructor <;> omega)
  · simp only [hj, if_false]
    first
      | omega
      | (split <;> omega)
      | (constructor <;> omega)
theorem ItOk.rngC {cc : Int} {n : Nat} {M : Addr → Prop} {H : Hp} : ItOk Γ (Itc 0 cc n) ((List.range n).map fun (k : Nat) => D.int ((k : Int) * cc)) M H := by
  refine ⟨fun M' H' g _ i d e => ?_, fun M' H' g => ?_⟩
  · rw [List.getElem?_map] at e
    cases q : (List.range n)[i]? with
    | none => rw [q] at e; cases e
    | some j =>
      rw [q] at e
      cases e
      have hi : i < n := by
        have := (List.getElem?_eq_some_iff.mp q).1
        rw [List.length_range] at this
        exact this
      rw [List.getElem?_range hi] at q
      cases q
      refine ⟨hi, fun x H2 y => ?_⟩
      obtain ⟨rfl, rfl⟩ := y
      rw [Int.zero_add]
      exact ⟨fun _ _ z => z, .int _⟩
  · show n ≤ _
    rw [List.length_map, List.length_range]
    exact Nat.le_refl _
/-- range(0, b, c) -/
theorem sdi_range3 {tg : Expr} {p p0 pos : Pos} {j0 : Nat} (hg : Gl X "range") (hm : X.mg "range" = none) (hb : SdE Γ X b fb) (nb : NS X b) (hc : SdE Γ X c fc) (nc : NS X c) (hs0 : ∀ es, starEach (.Constant (.int 0) j0 p0 :: es) X.env = (false, eval (.Constant (.int 0) j0 p0) X.env) :: starEach es X.env := by intro _; rfl) :
    SdI Γ X tg (.Call (.Name "range" p) [.Constant (.int 0) j0 p0, b, c] [] pos) (iRng3 fb fc) := by
  intro hK σ env ds env' w R he E k
  refine wI.of (pi_range3 hg hm (pa_cons pe_int (pa_cons pe_wE (pa_cons pe_wE pa_nil (nc _)) (nb _)) (hs0 _)) (hs0 _) (by rw [nb, nc]; rfl)) ?_
  unfold iRng3 at he
  split at he
  · rename_i j env1 g
    split at he
    · rename_i cc env2 g2
      split at he
      · rename_i hn
        cases he
        refine hb hK σ env _ _ w _ g E fun v w1 Fr E1 T1 p1 f1 => ?_
        cases T1.rep.int rfl
        refine hc hK σ _ _ _ w1 _ g2 E1 fun v2 w2 Fr2 E2 T2 p2 f2 => ?_
        cases T2.rep.int rfl
        exact ⟨0, j, cc, _, rfl, rgc_up hn.1 hn.2.1 hn.2.2.1 hn.2.2.2, k _ w2 E2 (p1.trans p2 E.dom) ItOk.rngC⟩
      · cases he
    · cases he
  · cases he
end
end G

/-! L10: f-strings, len(set(ints)) -/
namespace G
open PySem L2
section
variable {Γ : Gam} {X : Cx} {A : List Nat} {a b c e : Expr} {es : List Expr} {fa fb fc : Ev Γ} {pos : Pos}
/-! ### f-strings -/
def fmtS {Γ : Gam} (s : Sl Γ) : Option Str :=
  match s.view with
  | some (.str y) => if y.length ≤ sizeLine then some y else none
  | some (.int i) => if i.natAbs.log2 < 1920 then some (toString i) else none
  | _ => none
def mJs {Γ : Gam} : List (Str ⊕ AE Γ) → Str → Env Γ → Option (Str × Env Γ)
  | [], acc, env => some (acc, env)
  | .inl z :: ps, acc, env => if (acc ++ z).length ≤ sizeLine then mJs ps (acc ++ z) env else none
  | .inr a :: ps, acc, env => match evA a env with
    | none => none
    | some (x, env1) => match (peek x env1).bind fmtS with
      | none => none
      | some y => if (acc ++ y).length ≤ sizeLine then mJs ps (acc ++ y) env1 else none
inductive SdJ (Γ : Gam) (X : Cx) : List Expr → List (Str ⊕ AE Γ) → Prop
  | nil : SdJ Γ X [] []
  | lit {z : Str} {j : Nat} {p : Pos} {es : List Expr} {ps : List (Str ⊕ AE Γ)} : SdJ Γ X es ps → SdJ Γ X (.Constant (.str z) j p :: es) (.inl z :: ps)
  | op {e : Expr} {a : AE Γ} {p : Pos} {es : List Expr} {ps : List (Str ⊕ AE Γ)} : SdA Γ X e a → SdJ Γ X es ps → SdJ Γ X (.FormattedValue e (-1) none p :: es) (.inr a :: ps)
theorem pj_wE : ∀ {es : List Expr}, PJ X es (es.map (wE X))
  | [] => .nil
  | _ :: _ => .cons pe_wE pj_wE
theorem js_run (hK : Gd Γ X) {σ : St} : ∀ {es : List Expr} {ps : List (Str ⊕ AE Γ)} {acc out : Str} {env env' : Env Γ} {w : Wd} {Q : Str → Hp → Prop}, SdJ Γ X es ps → mJs ps acc env = some (out, env') → ER Γ w σ env → (∀ w', ER Γ w' σ env' → Step w w' → Q out w'.H) → tJs (es.map (wE X)) acc σ w.H Q
  | _, _, _, _, _, _, w, Q, .nil, he, E, k => by
    cases he
    exact k w E (Step.refl w)
  | _, _, acc, out, env, env', w, Q, .lit (z := z) (ps := ps) r, he, E, k => by
    unfold mJs at he
    split at he
    · rename_i hl
      refine wE.of pe_str ?_
      exact ⟨z, rfl, hl, js_run hK r he E k⟩
    · cases he
  | _, _, acc, out, env, env', w, Q, .op (a := a) (ps := ps) h r, he, E, k => by
    unfold mJs at he
    cases g1 : evA a env with
    | none => simp only [g1] at he; cases he
    | some q =>
      obtain ⟨x, env1⟩ := q
      simp only [g1] at he
      cases g2 : peek x env1 with
      | none => simp only [g2, Option.bind_none] at he; cases he
      | some s =>
        simp only [g2, Option.bind_some] at he
        cases g3 : fmtS s with
        | none => simp only [g3] at he; cases he
        | some y =>
          simp only [g3] at he
          split at he
          · rename_i hl
            refine wE.of (pe_fmt pe_wE) ?_
            refine sda_run h hK g1 E fun v w1 Fr E1 A1 p1 f1 => ?_
            obtain ⟨G', R⟩ := A1.peek E1 g2
            have fin : ∀ (H : Hp), H = w1.H → ∃ y', V.str y = .str y' ∧ (acc ++ y').length ≤ sizeLine ∧ tJs (List.map (wE X) _) (acc ++ y') σ H Q := fun H eh => by
              subst eh
              exact ⟨y, rfl, hl, js_run hK r he E1 fun w' E' p' => k w' E' (p1.trans p' E.dom)⟩
            unfold fmtS at g3
            split at g3
            · rename_i z e1
              split at g3
              · rename_i hz
                cases g3
                cases R.str e1
                exact .inl ⟨y, rfl, hz, fin _ rfl⟩
              · cases g3
            · rename_i i e1
              split at g3
              · rename_i hz
                cases g3
                cases R.int e1
                exact .inr ⟨i, rfl, hz, fin _ rfl⟩
              · cases g3
            · cases g3
          · cases he
def mFs {Γ : Gam} (ps : List (Str ⊕ AE Γ)) : Ev Γ := fun env => (mJs ps Str.empty env).map fun q => (.dat (.str q.1), q.2)
theorem sd_fs {v1 v2 : Expr} {rest : List Expr} {ps : List (Str ⊕ AE Γ)} (h : SdJ Γ X (v1 :: v2 :: rest) ps) : SdE Γ X (.JoinedStr (v1 :: v2 :: rest) pos) (mFs ps) := by
  intro hK σ env r env' w Q he E k
  unfold mFs at he
  cases g : mJs ps Str.empty env with
  | none => rw [g] at he; cases he
  | some q =>
    rw [g] at he
    cases he
    exact wE.of (pe_joined pj_wE) (js_run hK h g E fun w' E' p' => k _ w' (fun _ => False) E' (TR.dat (.str _)) p' fun _ z => z.elim)
/-! ### len(set(xs)) of ints -/
def intsOf : List D → Option (List Int)
  | [] => some []
  | .int i :: ds => (intsOf ds).map (i :: ·)
  | _ :: _ => none
theorem intsOf_ok {M : Addr → Prop} {H : Hp} : ∀ {vs : List V} {ds : List D} {ns : List Int}, Dats Γ M H vs ds → intsOf ds = some ns → vs = ns.map V.int
  | _, _, _, .nil, e => by cases e; rfl
  | _, _, _, .cons (d := d) (ds := ds) h r, e => by
    cases d with
    | int i =>
      unfold intsOf at e
      cases g : intsOf ds with
      | none => rw [g] at e; cases e
      | some es =>
        rw [g] at e
        cases e
        cases h
        rw [intsOf_ok r g]
        rfl
    | _ => cases e
/-- how many unlike ones -/
def manyI (ns : List Int) : Nat := (PyProof.Rows.firstMet (fun i => ns.getD i 0) ns.length).length
def pLenSet {Γ : Gam} (x : Sl Γ) : Option (Sl Γ) :=
  match x.view with
  | some (.lst ds) => match intsOf ds with
    | some ns => if ns.length ≤ 1000 then some (di (manyI ns)) else none
    | none => none
  | some (.tup []) => some (di 0)
  | _ => none
def tLenS (K : PySem.W.Frag) (ta : TE) : TE := fun σ H Q => ta σ H fun x H1 => (∃ (l : Addr) (ns : List Int), x = .ref l ∧ SqL K H1 l (ns.map V.int) ∧ ns.length ≤ 1000 ∧ Q (.int (manyI ns : Nat)) H1) ∨ ∃ l : Addr, x = .ref l ∧ SqT K H1 l [] ∧ Q (.int 0) H1
theorem pe_lenS {ta : TE} {p p2 q pos : Pos} (hc : X.calm = true) (hg : Gl X "len") (hm : X.mg "len" = none) (hg2 : Gl X "set") (hm2 : X.mg "set" = none) (ha : PE X a ta) (na : starEach [a] X.env = (false, eval a X.env) :: starEach [] X.env) :
    PE X (.Call (.Name "len" p) [.Call (.Name "set" p2) [a] [] q] [] pos) (tLenS X.K ta) := by
  refine ⟨fun pins s σ H Q I h => ?_⟩
  refine PyProof.Rows.Call_ (ld_blt I hg hm PySem.boot_len ?_)
  refine PyProof.Rows.callWith_builtin1 (PyProof.Rows.args_cons ?_ rfl) rfl rfl
  refine PyProof.Rows.Call_ (ld_blt I hg2 hm2 PyProof.Rows.boot_set ?_)
  refine PyProof.Rows.callWith_type1 (PyProof.Rows.args_cons (thn (ha.run pins s σ H _ I h) fun v s1 ⟨x, H1, I1, r1, q1⟩ => PyProof.Rows.args_nil ?_) na) na rfl
  rcases q1 with ⟨l, ns, rfl, hq, hl, q1⟩ | ⟨l, rfl, hq, q1⟩
  · cases r1
    obtain ⟨its, r, pl, hz⟩ := I1.list hq
    have hlen : its.toArray.size = ns.length := by rw [List.size_toArray, ← r.length, List.length_map]
    refine call_set_list (I1.ok.hd hc) pl.isList (by simpa using RZ.intsAre_vals r) (by rw [hlen]; unfold scanBound; omega) fun h' tk hS hk => ?_
    refine PyProof.Rows.args_nil ?_
    rw [hlen] at hS
    obtain ⟨o, es, ep, t, ho, hex, hd, _, _, _, hf, hn⟩ := hS
    have I2 : Inv X pins σ H1 { s1 with heap := h', toks := tk } := I1.kept fun b o e => hk b o (Heap.lt_size e) e
    have le := PyProof.Rows.firstMet_length_le (fun i => ns.getD i 0) ns.length
    exact call_len_set ho hex hd hf (by rw [hn] <;> omega) ⟨.int (manyI ns : Nat), H1, I2.tok _, ⟨_, by rw [hn]; rfl⟩, q1⟩
  · cases r1
    obtain ⟨its, r, pt, hz⟩ := I1.tuple hq
    cases r
    refine call_set_tupI [] (I1.ok.hd hc) (show s1.heap.IsTuple l #[] from pt) .nil (by unfold scanBound; simp) fun h' tk cc R1 hcn k => ?_
    refine PyProof.Rows.args_nil ?_
    obtain ⟨o, es, ep, t, ho, hex, hdt, g, nd, hm2, hb, hf, hn, hr, hl2⟩ := R1
    have I2 : Inv X pins σ H1 { s1 with heap := h', toks := tk } := I1.kept k
    have c0 : cc = 0 := by simpa using hcn
    exact call_len_set ho hex hdt hf (by rw [hn, c0]; decide) ⟨.int 0, H1, I2.tok _, ⟨_, by rw [hn, c0]; rfl⟩, q1⟩
theorem sd_lenSet {fo : AE Γ} {p p2 q : Pos} (hg : Gl X "len") (hm : X.mg "len" = none) (hg2 : Gl X "set") (hm2 : X.mg "set" = none) (ha : SdA Γ X a fo) (na : NS X a) : SdE Γ X (.Call (.Name "len" p) [.Call (.Name "set" p2) [a] [] q] [] pos) (m1 pLenSet fo) := by
  intro hK σ env r env' w Q he E k
  refine wE.of (pe_lenS hK.calm hg hm hg2 hm2 pe_wE (na [])) ?_
  refine run1 (r := fun x H Q => (∃ (l : Addr) (ns : List Int), x = .ref l ∧ SqL Γ.K H l (ns.map V.int) ∧ ns.length ≤ 1000 ∧ Q (.int (manyI ns : Nat)) H) ∨ ∃ l : Addr, x = .ref l ∧ SqT Γ.K H l [] ∧ Q (.int 0) H) ?_ ha hK he E k |>.mono fun x H1 q => by rw [← hK.k]; exact q
  intro M H x sx s Gx Q dom hp hx k
  unfold pLenSet at hp
  split at hp
  · rename_i ds e1
    split at hp
    · rename_i ns g2
      split at hp
      · rename_i hl
        cases hp
        obtain ⟨p, vs, rfl, hq, r⟩ := hx.list e1
        have ev := intsOf_ok r g2
        subst ev
        exact .inl ⟨p, ns, rfl, hq, hl, k.dat (.int _)⟩
      · cases hp
    · cases hp
  · rename_i e1
    cases hp
    obtain ⟨p, vs, rfl, hq, r⟩ := hx.tuple e1
    cases r
    exact .inr ⟨p, rfl, hq.sq, k.dat (.int _)⟩
  · cases hp
end
end G

/-! L11: == and != by an own __eq__, the other side an instance, an int or a list -/
namespace G
open PySem L2
section
variable {prog : Program} {w : World} {A : Around} {E : Value → Shared → Prop} {s : Shared} {K : PySem.W.Frag} {x C f L : Addr} {h₀ : Heap} {m : Str → Option Value} {ox : Obj} {od : Option Obj} {b tb : Value}
/-- object.__ne__(x, b): what the own __eq__ says, turned -/
theorem call_ne (X : K.In s.heap) (I : PySem.W.InstAt s.heap x ox C od) (hu : A.units + 1 < cLine) (hob : PySem.W.subIn K (.ref C) (.type "object") = some true) (hs : PySem.W.findIn K (.ref C) "__eq__" = some (some (.ref f))) (hf : PySem.W.isFn K (.ref f) = true) {Q : Value → Shared → Prop}
    (h : wpAny (model prog w) A.in1 (call (.ref f) [.ref x, b]) (fun v s' => ∃ z, v = .bool z ∧ Q (.bool (!z)) s') E s) : wpAny (model prog w) A (call (.builtin "object.__ne__") [.ref x, b]) Q E s := by
  refine wpAny_call (codeAny_call_builtin F.cmp_object.ne.plain F.cmpEntry_ne ?_)
  have hI : PySem.W.Looks (model prog w) s.heap (isInstance (.ref x) (.type "object")) true := I.type.andThen (PySem.W.looks_subIn X hob)
  have body : wpAny (model prog w) A.in1 (Builtin.«object.__ne__» ⟨[.ref x, b], []⟩) (fun fin s' => match fin with | .done fl => (match (Except.ok fl : Result) with | .ok (.ret v) => Q v s' | .ok _ => False | .error e => E e s') | .again c' => c'.quiet = true ∧ codeAny (model prog w) A c' (fun r s' => match r with | .ok (.ret v) => Q v s' | .ok _ => False | .error e => E e s') s') E s := by
    unfold Builtin.«object.__ne__»
    repeat (first
      | with_reducible refine wpAny_cRoomFor hu ?_
      | (refine wpAny_bind (m := callSpecialIfBound? (.ref x) (Str.ofString "__eq__") [b])
          (PySem.W.ifBound_K X I hs hf (wpAny_mono h (fun r s' hr => by
            obtain ⟨z, rfl, hq⟩ := hr
            repeat (first | exact hq | exact wpAny_pure hq | exact wpAny_truthy_bool hq | (refine wpAny_bind (m := truthy (.bool _)) (wpAny_truthy_bool ?_)) | wp_step)) fun _ _ e => e)))
      | wp_step)
  simp only [checkBuiltinCall, F.cmpKind_ne, F.cmpSplit_ne]
  refine wpAny_bind (hI.here ?_)
  have ha := F.cmpArgs_ne (.ref x) b
  cases hsig : Manifest.signature? "object.__ne__" with
  | none =>
    first
      | exact wpAny_pure body
      | (simp only [hsig]; exact wpAny_pure body)
      | exact body
  | some sig =>
    simp only [argsOk, hsig] at ha
    have h2 : Bind.checkArgs "object.__ne__" sig ⟨[.ref x, b], []⟩ = pure () := ha
    first
      | (show wpAny _ _ (Bind.checkArgs "object.__ne__" sig ⟨[.ref x, b], []⟩) _ _ _
         rw [h2]; exact wpAny_pure body)
      | (simp only [hsig, h2]; exact wpAny_pure body)
/-- x != b -/
theorem ne_K {op : CmpOp} (eop : op = .NotEq) (hu : A.units + 1 < cLine) (X : K.In s.heap) (I : PySem.W.InstAt s.heap x ox C od) (hb : PySem.W.Looks (model prog w) s.heap (typeOf b) tb) (hn : PySem.W.notFirst K C tb = true)
    (hno : PySem.W.findIn K (.ref C) "__ne__" = some (some (.builtin "object.__ne__"))) (hob : PySem.W.subIn K (.ref C) (.type "object") = some true) (hs : PySem.W.findIn K (.ref C) "__eq__" = some (some (.ref f))) (hf : PySem.W.isFn K (.ref f) = true) {Q : Value → Shared → Prop}
    (h : wpAny (model prog w) A.in1 (call (.ref f) [.ref x, b]) (fun v s' => ∃ z, v = .bool z ∧ Q (.bool (!z)) s') E s) : wpAny (model prog w) A (richCompare op (.ref x) b) Q E s := by
  have one : wpAny (model prog w) A (tryCompare (.ref x) (cmpInfo op).2.1 b) (fun r s' => ∃ v, r = some v ∧ Q v s') E s := by
    subst eop
    unfold tryCompare
    refine wpAny_bind ?_
    show wpAny _ _ (callSpecialIfBound? (.ref x) (Str.ofString "__ne__") [b]) _ _ _
    have back : wpAny (model prog w) A (call (.builtin "object.__ne__") ([.ref x] ++ [b]) >>= fun v => pure (some v)) (fun r s' => wpAny (model prog w) A (match r with | some .notImplemented | none => pure none | some v => pure (some v)) (fun r s' => ∃ v, r = some v ∧ Q v s') E s') E s := by
      refine wpAny_bind (call_ne X I hu hob hs hf (wpAny_mono h (fun v s' hv => ?_) fun _ _ e => e))
      obtain ⟨z, rfl, hq⟩ := hv
      exact ⟨z, rfl, wpAny_pure (wpAny_pure ⟨_, rfl, hq⟩)⟩
    simp only [callSpecialIfBound?, bindSpecialIfBound?]
    refine wpAny_holding (wpAny_bind (wpAny_bind (wpAny_bind (I.type.here ((PySem.W.looks_findIn X hno).here ?_)))))
    simp only [F.cmp_object.ne.bind]
    refine wpAny_bind (wpAny_askSetting (wpAny_ite ?_))
    split
    · exact wpAny_bind (wpAny_pure (wpAny_pure back))
    · exact wpAny_tryCatch (wpAny_bind (wpAny_pure (wpAny_pure back)))
  unfold richCompare
  simp only [oneThing_ref]
  refine wpAny_holding ?_
  refine wpAny_bind (wpAny_cRoomFor (Nat.lt_of_succ_lt hu) ?_)
  refine wpAny_bind (I.type.here (wpAny_bind (hb.here ?_)))
  split
  · rename_i q
    have e : PySem.W.subIn K tb (.ref C) = some false := by
      rcases Bool.or_eq_true_iff.mp hn with e | e
      · rw [beq_iff_eq.mp e] at q; simp at q
      · exact beq_iff_eq.mp e
    refine wpAny_bind ((PySem.W.looks_subIn X e).here ?_)
    simp only [Bool.false_eq_true, if_false]
    refine wpAny_bind (wpAny_mono one (fun r s' z => ?_) fun _ _ e => e)
    obtain ⟨v, rfl, hq⟩ := z
    exact wpAny_pure hq
  · refine wpAny_bind (wpAny_pure ?_)
    simp only [Bool.false_eq_true, if_false]
    refine wpAny_bind (wpAny_mono one (fun r s' z => ?_) fun _ _ e => e)
    obtain ⟨v, rfl, hq⟩ := z
    exact wpAny_pure hq
end
end G

/-! L12: a != b by an own __eq__, by data -/
namespace G
open PySem L2
def fitN {Γ : Gam} (c : Nat) : Sl Γ → Bool
  | .ins c' _ => c' == c
  | .dat (.int _) => true
  | _ => false
def mOwnN {Γ : Gam} (c : Nat) (g : Fn Γ) (a b : AE Γ) : Ev Γ := fun env =>
  match mOwn (fitN c) c g a b env with
  | some (.dat (.bl z), env') => some (.dat (.bl (!z)), env')
  | _ => none
/-- the second operand: an instance, an int -/
def tyN (H : Hp) (C : Addr) (y : V) : Prop := (∃ b dx fs, y = .ref b ∧ H b = some (.ins C dx fs)) ∨ ∃ i, y = .int i
def rOwnN (C : Addr) (sp : Sp) (E : XK) : R2 := fun x y H Q => ∃ a dx fs, x = .ref a ∧ tyN H C y ∧ H a = some (.ins C dx fs) ∧ sp [x, y] H (fun v H' => ∃ z, v = .bl z ∧ Q (.bl (!z)) H') E
structure OwnN (Γ : Gam) (X : Cx) (c : Nat) (g : Fn Γ) : Prop where
  ex : ∃ C ns k f fd ps, Γ.cls c = some (C, ns) ∧ PySem.W.findIn X.K (.ref C) "__eq__" = some (some (.ref f)) ∧ PySem.W.isFn X.K (.ref f) = true ∧ PySem.W.findIn X.K (.ref C) "__ne__" = some (some (.builtin "object.__ne__")) ∧ PySem.W.subIn X.K (.ref C) (.type "object") = some true ∧
    PySem.W.notFirst X.K C (.type "int") = true ∧ FnOk X.prog X.w X.K X.mg X.base CX0 k f fd ps (spG Γ 2 g) ∧ Room (k + 1) X.A ∧ Binds X.K fd ps []
section
variable {Γ : Gam} {X : Cx} {c : Nat} {g : Fn Γ} {a b : Expr} {pos : Pos} {fa fb : AE Γ} {σ : St} {env env' : Env Γ} {w : Wd}
theorem op_ownN {C : Addr} {k : Nat} {f : Addr} {fd : FuncData} {ps : List Str} (h2 : PySem.W.findIn X.K (.ref C) "__eq__" = some (some (.ref f))) (h3 : PySem.W.isFn X.K (.ref f) = true) (h4 : PySem.W.findIn X.K (.ref C) "__ne__" = some (some (.builtin "object.__ne__"))) (h5 : PySem.W.subIn X.K (.ref C) (.type "object") = some true)
    (h6 : PySem.W.notFirst X.K C (.type "int") = true) (h7 : FnOk X.prog X.w X.K X.mg X.base CX0 k f fd ps (spG Γ 2 g)) (h8 : Room (k + 1) X.A) (h9 : Binds X.K fd ps []) : OpR X (compareOp .NotEq) (rOwnN C (spG Γ 2 g) E0) := by
  intro pins s σ H x y v u Q I rx ry h
  obtain ⟨ad, dx, fs, rfl, ty, hA, q⟩ := h
  cases (show v = Value.ref ad from rx)
  obtain ⟨mA, J, _⟩ := ins_get I.hok hA
  obtain ⟨od, J, _⟩ := J.look
  have fin : wpAny (model X.prog X.w) X.A.in1 (call (.ref f) [.ref ad, u]) (fun v s' => ∃ z, v = .bool z ∧ EP X pins σ Q (.bool (!z)) s') X.xe s := by
    have r2 : Vals [.ref ad, y] [.ref ad, u] := .cons rfl (.cons ry .nil)
    have hl : ([Value.ref ad, u] ++ []).length = ps.length := by rw [List.append_nil, ← r2.length]; exact h7.len _ _ _ _ q
    refine wpAny_call (codeAny_mono (h7.run X.A.in1 X.stack s H ⟨[.ref ad, u], []⟩ [.ref ad, u] [.ref ad, y] _ E0 h8.in1 I.env0.in1 (by simpa using h9 s [.ref ad, u] I.kIn hl) r2 q) fun r s' hq => ?_)
    match r, hq with
    | .error e, hq => exact pass0 pins σ H s e s' I hq
    | .ok (.ret t), hq =>
      obtain ⟨z', H', I', rz, z, ez, qz⟩ := I.after hq
      subst ez
      cases (show t = Value.bool z from rz)
      exact ⟨z, rfl, .bl (!z), H', I', rfl, qz⟩
  show wpAny (model X.prog X.w) X.A (richCompare .NotEq _ _) _ _ _
  have hu : X.A.units + 1 < cLine := by have := h8.un; omega
  rcases ty with ⟨bd, dy, fy, rfl, hB⟩ | ⟨i, rfl⟩
  · cases (show u = Value.ref bd from ry)
    obtain ⟨mB, J', _⟩ := ins_get I.hok hB
    obtain ⟨od', J', _⟩ := J'.look
    exact ne_K (tb := .ref C) rfl hu I.kIn J J'.type (by simp [PySem.W.notFirst]) h4 h5 h2 h3 fin
  · obtain ⟨t, rfl⟩ := (show ∃ t, u = Value.int i t from ry)
    exact ne_K (tb := .type "int") rfl hu I.kIn J (.of_pure rfl) h6 h4 h5 h2 h3 fin
theorem own_ne {C : Addr} {ns : List Str} {r : Sl Γ} {Q : VK} (hK : Gd Γ X) (h1 : Γ.cls c = some (C, ns)) (ha : SdL Γ X [a, b] [fa, fb]) (he : mOwnN c g fa fb env = some (r, env')) (E : ER Γ w σ env)
    (k : ∀ v w' Fr, ER Γ w' σ env' → TR Γ w' v r Fr → Step w w' → Fresh w Fr → Q v w'.H) : wE X a σ w.H fun x H1 => wE X b σ H1 fun y H2 => rOwnN C (spG Γ 2 g) E0 x y H2 Q := by
  unfold mOwnN at he
  split at he
  · rename_i z env1 g1
    cases he
    have q := own_run (E0 := E0) (Q := fun v H' => ∃ z, v = V.bl z ∧ Q (.bl (!z)) H') hK h1 ha g1 E fun v w' Fr E' T p' f' => by
      cases T.rep.bl rfl
      exact ⟨z, rfl, k _ w' (fun _ => False) E' (TR.dat (.bl _)) p' fun _ z => z.elim⟩
    intro pins s I
    refine thn (q pins s I) fun u s1 ⟨x, H1, I1, rx, q1⟩ => ⟨x, H1, I1, rx, ?_⟩
    intro pins s I
    refine thn (q1 pins s I) fun u s1 ⟨y, H2, I2, ry, ad, dx, fs, M, G, s, e1, e2, e3, e4, e5⟩ => ⟨y, H2, I2, ry, ?_⟩
    match s, e3, e4 with
    | .ins c' fs', e3, e4 =>
      have ec : c' = c := by simpa [fitN] using e3
      subst ec
      obtain ⟨bd, C', ns', dy, fy, G, rfl, hC', hB, _⟩ := e4
      rw [h1] at hC'
      cases hC'
      exact ⟨ad, dx, fs, e1, .inl ⟨bd, dy, fy, rfl, hB⟩, e2, e5⟩
    | .dat (.int i), e3, e4 =>
      cases e4.1
      exact ⟨ad, dx, fs, e1, .inr ⟨i, rfl⟩, e2, e5⟩
  · cases he
theorem sd_ownNe (h : OwnN Γ X c g) (ha : SdL Γ X [a, b] [fa, fb]) : SdE Γ X (.Compare a [.NotEq] [b] pos) (mOwnN c g fa fb) := by
  obtain ⟨C, ns, k0, f, fd, ps, h1, h2, h3, h4, h5, h6, h7, h8, h9⟩ := h
  intro hK σ env r env' w Q he E k
  exact wE.of (pe_cmpR (op_ownN h2 h3 h4 h5 h6 h7 h8 h9) pe_wE pe_wE (nobehind _ (by decide) (by decide))) (own_ne hK h1 ha he E k)
theorem sdt_ownNe (h : OwnN Γ X c g) (ha : SdL Γ X [a, b] [fa, fb]) : SdT Γ X (.Compare a [.NotEq] [b] pos) (toT (mOwnN c g fa fb)) := by
  obtain ⟨C, ns, k0, f, fd, ps, h1, h2, h3, h4, h5, h6, h7, h8, h9⟩ := h
  intro hK σ env r env' w Q he E k
  exact wT.of (pt_cmpR (op_ownN h2 h3 h4 h5 h6 h7 h8 h9) pe_wE pe_wE (nobehind _ (by decide) (by decide))) (own_ne (Q := fun x H1 => ∃ c, x = V.bl c ∧ Q c H1) hK h1 ha (toT_some he) E fun v w' Fr E' T p' f => ⟨r, T.bl, k w' E' p'⟩)
end
end G

/-! L13: isinstance of an own class, ints too; what a text's class offers, told once -/
namespace G
open PySem L2
structure IsN (Γ : Gam) (X : Cx) (c : Nat) (x : Str) : Prop where
  ex : ∃ C ns, Γ.cls c = some (C, ns) ∧ X.mg x = some (.ref C) ∧ Cls X.K C ∧ PySem.W.findIn X.K (.ref C) "__class__" = some (some (.builtin "object.__class__")) ∧ PySem.W.specialIn X.K (.builtin "object.__class__") "__get__" = some (some (.builtin "getset_descriptor.__get__")) ∧
    PySem.W.takesIn X.K (.builtin "object.__class__") = some true ∧ PySem.W.mroIn X.K C (.type "object") = some true ∧ PySem.W.kitOne X.K (.ref C) (.ref C) = some true ∧ PySem.W.kitOne X.K (.type "int") (.ref C) = some false
def pIsN {Γ : Gam} (c : Nat) (s : Sl Γ) : Option (Sl Γ) :=
  match s with
  | .ins c' _ => if c' = c then some (db true) else none
  | .dat (.int _) => some (db false)
  | _ => none
section
variable {Γ : Gam} {X : Cx} {a : Expr} {fa : AE Γ} {pos : Pos}
theorem sd_isN {c : Nat} {x : Str} {p p2 : Pos} (h : IsN Γ X c x) (hg : Gl X "isinstance") (hm : X.mg "isinstance" = none) (hgT : Gl X x) (ha : SdA Γ X a fa) (na : NS X a) (hdT : (x == ("__debug__" : Str)) = false := by decide)
    (hs2 : ∀ es, starEach (.Name x p2 :: es) X.env = (false, eval (.Name x p2) X.env) :: starEach es X.env := by intro _; rfl) (hpl : (backTo pos (starEach [.Name x p2] X.env)).any (·.1) = false := by rfl) :
    SdE Γ X (.Call (.Name "isinstance" p) [a, .Name x p2] [] pos) (m1 (pIsN c) fa) := by
  obtain ⟨C, ns, h1, h2, h3, h4, h5, h6, h7, h8, h9⟩ := h
  intro hK σ env r env' w Q he E k
  refine wE.of (pe_callB (id := "isinstance") (x := "isinstance") call_isi hg hm PyProof.Rows.boot_isinstance (pa_cons pe_wE (pa_cons (pe_glob (v := .ref C) hgT h2 rfl hdT) pa_nil (hs2 [])) (na _)) (by decide) (by decide) (na _) hpl) ?_
  refine run1 (r := fun x H Q => rIsi X.K [x, .ref C] H Q) ?_ ha hK he E k
  intro M H x sx s Gx Q dom hp hx k
  unfold pIsN at hp
  split at hp
  · rename_i c' fs
    split at hp
    · rename_i ec
      subst ec
      cases hp
      obtain ⟨ad, C', ns', dx, vs, G, rfl, hC, hA, _⟩ := hx
      rw [h1] at hC
      cases hC
      exact ⟨_, .ref C, .ref C, .ref C, true, rfl, .own C, .base (.ins hA h3 h4 h5 h6 h7), h8, k.dat (.bl _)⟩
    · cases hp
  · rename_i i
    cases hp
    cases hx.1
    exact ⟨_, .ref C, .type "int", .ref C, false, rfl, .own C, .base (.int i), h9, k.dat (.bl _)⟩
  · cases hp
end
section
variable (Γ : Gam) (P : Program) (w : World) (mg : Str → Option Value) (base : Heap)
structure INCa (c : Nat) (x : Str) : Prop where
  ex : ∃ C ns, Γ.cls c = some (C, ns) ∧ mg x = some (.ref C) ∧ Cls Γ.K C ∧ PySem.W.findIn Γ.K (.ref C) "__class__" = some (some (.builtin "object.__class__")) ∧ PySem.W.specialIn Γ.K (.builtin "object.__class__") "__get__" = some (some (.builtin "getset_descriptor.__get__")) ∧
    PySem.W.takesIn Γ.K (.builtin "object.__class__") = some true ∧ PySem.W.mroIn Γ.K C (.type "object") = some true ∧ PySem.W.kitOne Γ.K (.ref C) (.ref C) = some true ∧ PySem.W.kitOne Γ.K (.type "int") (.ref C) = some false
structure ClICa (x f : Str) (i : Int) : Prop where
  ex : ∃ C mc t, mg x = some (.ref C) ∧ ClX.CRead Γ.K C mc ∧ PySem.W.findCls Γ.K (.ref C) mc f = some (.val (.int i t))
structure MkCa (c : Nat) (x : Str) (np : Nat) (g : Fn Γ) (ks : List Str) (n1 : Nat) (pre : List D) (k : Nat) : Prop where
  ex : ∃ C ns f fd ps, Γ.cls c = some (C, ns) ∧ Mk Γ.K C f ∧ mg x = some (.ref C) ∧ FnOk P w Γ.K mg base CX0 k f fd ps (spG Γ np g) ∧ KBd Γ Γ.K fd ps ks n1 pre
structure MzCa (c : Nat) (x : Str) (CB : Addr) (fld : Str) (zf : List D → Option Str) (ks : List Str) (n1 : Nat) (pre : List D) (k : Nat) : Prop where
  ex : ∃ C ns f fd ps, Γ.cls c = some (C, ns) ∧ Mk Γ.K C f ∧ mg x = some (.ref C) ∧ FnOk P w Γ.K mg base (L2.CX P w) k f fd ps (spRz Γ c C CB fld zf) ∧ KBd Γ Γ.K fd ps ks n1 pre
structure OnCa (c : Nat) (g : Fn Γ) (k : Nat) : Prop where
  ex : ∃ C ns f fd ps, Γ.cls c = some (C, ns) ∧ PySem.W.findIn Γ.K (.ref C) "__eq__" = some (some (.ref f)) ∧ PySem.W.isFn Γ.K (.ref f) = true ∧ PySem.W.findIn Γ.K (.ref C) "__ne__" = some (some (.builtin "object.__ne__")) ∧ PySem.W.subIn Γ.K (.ref C) (.type "object") = some true ∧
    PySem.W.notFirst Γ.K C (.type "int") = true ∧ FnOk P w Γ.K mg base CX0 k f fd ps (spG Γ 2 g) ∧ Binds Γ.K fd ps []
structure BdCa (x : Str) (CB : Addr) (fld : Str) (ok : V → Prop) (k : Nat) : Prop where
  ex : ∃ fI fd ps, FnOk P w Γ.K mg base CX0 k fI fd ps (spSup CB fld ok) ∧ Binds Γ.K fd ps [] ∧ PySem.W.findIn Γ.K (.ref CB) "__init__" = some (some (.ref fI)) ∧ PySem.W.typeIn Γ.K (.ref fI) = some (.type "function")
  T : OexC Γ.K CB
  mg : mg x = some (.ref CB)
end
section
variable {Γ : Gam} {X : Cx} {c np k j n1 : Nat} {m x f : Str} {i : Int} {g : Fn Γ} {ks : List Str} {pre : List D} {CB : Addr} {fld : Str} {zf : List D → Option Str} {ok : V → Prop}
theorem INCa.is (hK : Γ.K = X.K) (h : INCa Γ X.mg c x) : IsN Γ X c x := by
  obtain ⟨C, ns, h1, h2, h3, h4, h5, h6, h7, h8, h9⟩ := h
  exact ⟨C, ns, h1, h2, hK ▸ h3, hK ▸ h4, hK ▸ h5, hK ▸ h6, hK ▸ h7, hK ▸ h8, hK ▸ h9⟩
theorem ClICa.cl (hK : Γ.K = X.K) (h : ClICa Γ X.mg x f i) : ClI X x f i := by
  obtain ⟨C, mc, t, h1, h2, h3⟩ := h
  exact ⟨C, mc, t, h1, hK ▸ h2, hK ▸ h3⟩
theorem MkCa.kw (hK : Γ.K = X.K) (h : MkCa Γ X.prog X.w X.mg X.base c x np g ks n1 pre k) (hr : Room j X.A) (l : k + 1 ≤ j) : MkK Γ X c x np g ks n1 pre := by
  obtain ⟨C, ns, f, fd, ps, h1, h2, h3, h4, h5⟩ := h
  exact ⟨C, ns, k, f, fd, ps, h1, hK ▸ h2, h3, hK ▸ h4, hr.mono l, hK ▸ h5⟩
theorem MzCa.z (hK : Γ.K = X.K) (h : MzCa Γ X.prog X.w X.mg X.base c x CB fld zf ks n1 pre k) (hr : Room j X.A) (l : k + 1 ≤ j) : MkZ Γ X c x CB fld zf ks n1 pre := by
  obtain ⟨C, ns, f, fd, ps, h1, h2, h3, h4, h5⟩ := h
  exact ⟨C, ns, k, f, fd, ps, h1, hK ▸ h2, h3, hK ▸ h4, hr.mono l, hK ▸ h5⟩
theorem OnCa.o (hK : Γ.K = X.K) (h : OnCa Γ X.prog X.w X.mg X.base c g k) (hr : Room j X.A) (l : k + 1 ≤ j) : OwnN Γ X c g := by
  obtain ⟨C, ns, f, fd, ps, h1, h2, h3, h4, h5, h6, h7, h8⟩ := h
  exact ⟨C, ns, k, f, fd, ps, h1, hK ▸ h2, hK ▸ h3, hK ▸ h4, hK ▸ h5, hK ▸ h6, hK ▸ h7, hr.mono l, hK ▸ h8⟩
theorem BdCa.b (hK : Γ.K = X.K) (h : BdCa Γ X.prog X.w X.mg X.base x CB fld ok k) (hr : Room j X.A) (l : k + 1 ≤ j) : BadC X x CB fld ok := by
  obtain ⟨⟨fI, fd, ps, h1, h2, h3, h4⟩, hT, hm⟩ := h
  exact ⟨⟨k, fI, fd, ps, hK ▸ h1, hr.mono l, hK ▸ h2, hK ▸ h3, hK ▸ h4⟩, hK ▸ hT, hm⟩
end
end G

/-! L14: a, b, c = x, y, z -/
namespace G
open PySem L2
def mPar3 {Γ : Gam} (i j l : Nat) (fa fb fc : Ev Γ) : Es Γ := fun env =>
  match fa env with
  | none => none
  | some (s, env1) => match fb env1 with
    | none => none
    | some (t, env2) => match fc env2 with
      | none => none
      | some (u, env3) => if i < env3.length ∧ j < env3.length ∧ l < env3.length then some (.nx, ((env3.set i s).set j t).set l u) else none
section
variable {Γ : Gam} {X : Cx} {A : List Nat} {a b c : Expr} {pos : Pos}
theorem sds_par3 {i j l : Nat} {x y z : Str} {fa fb fc : Ev Γ} {px py pz pt : Pos} {kt k2 pt2} (hAi : i ∈ A) (hAj : j ∈ A) (hAl : l ∈ A) (hi : X.N[i]? = some x) (hj : X.N[j]? = some y) (hl : X.N[l]? = some z) (hij : i ≠ j) (hil : i ≠ l) (hjl : j ≠ l)
    (hx : X.env.scope.names.lookup x = some .local) (hy : X.env.scope.names.lookup y = some .local) (hz : X.env.scope.names.lookup z = some .local) (ha : SdE Γ X a fa) (na : NS X a) (hb : SdE Γ X b fb) (nb : NS X b) (hc : SdE Γ X c fc) (nc : NS X c)
    (hw : swappedStores [.Tuple [.Name x px, .Name y py, .Name z pz] kt pt] (.Tuple [a, b, c] k2 pt2) X.env = pure (some [x, y, z]))
    (hs : swapsWithSole [.Tuple [.Name x px, .Name y py, .Name z pz] kt pt] (.Tuple [a, b, c] k2 pt2) pos.line X.env = pure false := by rfl) :
    SdS Γ X A (.Assign [.Tuple [.Name x px, .Name y py, .Name z pz] kt pt] (.Tuple [a, b, c] k2 pt2) pos) (mPar3 i j l fa fb fc) := by
  intro hK σ env fl env' w D he E k
  refine wS.of (ps_par3 hK.calm hK.nd hi hj hl hij hil hjl hx hy hz (pa_wL (es := [a, b, c]) fun e h => by
    rcases List.mem_cons.mp h with q | q
    · rw [q]; exact na
    · rcases List.mem_cons.mp q with q | q
      · rw [q]; exact nb
      · rw [List.mem_singleton.mp q]; exact nc) hw hs) ?_
  unfold mPar3 at he
  cases g1 : fa env with
  | none => simp only [g1] at he; cases he
  | some q =>
    obtain ⟨s, env1⟩ := q
    simp only [g1] at he
    cases g2 : fb env1 with
    | none => simp only [g2] at he; cases he
    | some q =>
      obtain ⟨t, env2⟩ := q
      simp only [g2] at he
      cases g3 : fc env2 with
      | none => simp only [g3] at he; cases he
      | some q =>
        obtain ⟨u, env3⟩ := q
        simp only [g3] at he
        split at he
        · rename_i hll
          cases he
          refine ha hK σ env _ _ w _ g1 E fun v1 w1 F1 E1 T1 p1 f1 => ?_
          refine hb hK σ env1 _ _ w1 _ g2 E1 fun v2 w2 F2 E2 T2 p2 f2 => ?_
          refine hc hK σ env2 _ _ w2 _ g3 E2 fun v3 w3 F3 E3 T3 p3 f3 => ?_
          refine ⟨v1, v2, v3, rfl, ?_⟩
          have d12 : ∀ q, F1 q → ¬ F2 q := fun q y1 y2 => by
            rcases f2 q y2 with ⟨r, y⟩ | y
            · exact T1.off q r y1 y
            · exact E1.dom q (T1.sub q y1) y
          have T1a := TR.step E1 T1 p2
          have d13 : ∀ q, F1 q → ¬ F3 q := fun q y1 y2 => by
            rcases f3 q y2 with ⟨r, y⟩ | y
            · exact T1a.off q r y1 y
            · exact E2.dom q (T1a.sub q y1) y
          have d23 : ∀ q, F2 q → ¬ F3 q := fun q y1 y2 => by
            rcases f3 q y2 with ⟨r, y⟩ | y
            · exact T2.off q r y1 y
            · exact E2.dom q (T2.sub q y1) y
          have T1b := TR.step E2 T1a p3
          have T2b := TR.step E2 T2 p3
          have p12 := p1.trans p2 E.dom
          have p13 := p12.trans p3 E.dom
          have E4 := E3.set T1b hll.1
          have T2c : TR Γ ⟨w3.M, fun m q => if m = i then F1 q else w3.F m q, w3.H⟩ v2 t F2 := ⟨T2b.rep, T2b.sub, fun q m y1 y2 => by
            have y3 : (if m = i then F1 q else w3.F m q) := y2
            split at y3
            · exact d12 q y3 y1
            · exact T2b.off q m y1 y3⟩
          have E5 := E4.set T2c (i := j) (by rw [List.length_set]; exact hll.2.1)
          have T3c : TR Γ ⟨w3.M, fun m q => if m = j then F2 q else if m = i then F1 q else w3.F m q, w3.H⟩ v3 u F3 := ⟨T3.rep, T3.sub, fun q m y1 y2 => by
            have y3 : (if m = j then F2 q else if m = i then F1 q else w3.F m q) := y2
            split at y3
            · exact d23 q y3 y1
            · split at y3
              · exact d13 q y3 y1
              · exact T3.off q m y1 y3⟩
          have E6 := E5.set T3c (i := l) (by rw [List.length_set, List.length_set]; exact hll.2.2)
          exact k _ ⟨w3.M, fun m q => if m = l then F3 q else if m = j then F2 q else if m = i then F1 q else w3.F m q, w3.H⟩ E6 (((p13.set f1).set (f2.back p1)).set (f3.back p12)) (((Agree.set hAi).trans (Agree.set hAj)).trans (Agree.set hAl))
        · cases he
end
end G

/-! L15: a list lent to a def that only reads it -/
namespace G
open PySem L2
def flat : D → Bool
  | .non => true
  | .bl _ => true
  | .int _ => true
  | .str _ => true
  | _ => false
def okRes {Γ : Gam} : Sl Γ → Bool
  | .dat (.tup ds) => ds.all flat
  | .dat d => flat d
  | .lst ds => ds.all flat
  | _ => false
theorem flat_dat {Γ : Gam} {M M' : Addr → Prop} {H H' : Hp} {v : V} {d : D} (h : Dat Γ M H v d) (f : flat d = true) : Dat Γ M' H' v d := by
  cases h with
  | non => exact .non
  | bl b => exact .bl b
  | int i => exact .int i
  | str x => exact .str x
  | tup _ _ => cases f
  | lst _ _ _ => cases f
  | ins _ _ _ _ _ => cases f
  | odd _ _ => cases f
theorem flat_dats {Γ : Gam} {M M' : Addr → Prop} {H H' : Hp} : ∀ {vs : List V} {ds : List D}, Dats Γ M H vs ds → ds.all flat = true → Dats Γ M' H' vs ds
  | _, _, .nil, _ => .nil
  | _, _, .cons h r, f => by
    rw [List.all_cons, Bool.and_eq_true] at f
    exact .cons (flat_dat h f.1) (flat_dats r f.2)
def noL : D → Bool
  | .tup ds => ds.all flat
  | d => flat d
section
variable {Γ : Gam} {M : Addr → Prop} {H : Hp} {v : V} {p : Addr} {us : List V}
theorem dat_add {d : D} (h : Dat Γ M H v d) (n : noL d = true) (hp : H p = some (.lst us)) : Dat Γ (fun q => M q ∨ q = p) H v d := by
  cases h with
  | non => exact .non
  | bl b => exact .bl b
  | int i => exact .int i
  | str x => exact .str x
  | tup ht hd =>
    refine .tup ?_ (flat_dats hd n)
    rcases ht with ⟨n, hR⟩ | hK
    · refine .inl ⟨fun z => z.elim n fun e => ?_, hR⟩
      subst e
      rcases hR with y | ⟨o, y⟩
      · rw [y] at hp; cases hp
      · rw [y] at hp; cases hp
    · exact .inr hK
  | lst _ _ _ => cases n
  | ins _ _ _ _ _ => cases n
  | odd _ _ => cases n
/-- attributes that hold data without lists -/
def okF : List (Str × Fd) → Bool
  | [] => true
  | (_, .dat d) :: fs => noL d && okF fs
  | _ => false
theorem fds_add : ∀ {vs : List (Str × V)} {fs : List (Str × Fd)} {G : Addr → Prop}, FdRs Γ M H vs fs G → okF fs = true → H p = some (.lst us) → FdRs Γ (fun q => M q ∨ q = p) H vs fs G
  | _, _, _, .nil h, _, _ => .nil h
  | _, (_, .dat d) :: _, _, .cons h r e e', n, hp => by
    unfold okF at n
    rw [Bool.and_eq_true] at n
    exact .cons ⟨dat_add h.1 n.1 hp, h.2⟩ (fds_add r n.2 hp) e e'
  | _, (_, .lst _) :: _, _, .cons h r e e', n, hp => by cases n
  | _, (_, .dic _) :: _, _, .cons h r e e', n, hp => by cases n
theorem dats_add : ∀ {vs : List V} {ds : List D}, Dats Γ M H vs ds → ds.all noL = true → H p = some (.lst us) → Dats Γ (fun q => M q ∨ q = p) H vs ds
  | _, _, .nil, _, _ => .nil
  | _, _, .cons h r, n, hp => by
    rw [List.all_cons, Bool.and_eq_true] at n
    exact .cons (dat_add h n.1 hp) (dats_add r n.2 hp)
/-- what a slot may hold behind it -/
def okL : Sl Γ → Sl Γ → Bool
  | .none, _ => false
  | .lst _, .dat (.lst ds) => ds.all noL
  | .dat (.lst _), .dat (.lst ds) => ds.all noL
  | _, .dat d => noL d
  | _, .lst ds => ds.all noL
  | _, .ins _ fs => okF fs
  | _, _ => false
theorem okL_sr {s s' : Sl Γ} {M0 : Addr → Prop} {H0 : Hp} {F0 Fr : Addr → Prop} (ok : okL s s' = true) (h : SR Γ M H v s' Fr) (hp : H p = some (.lst us)) (h0 : SR Γ M0 H0 v s F0) (m0 : M0 p) (n0 : ¬ F0 p) : SR Γ (fun q => M q ∨ q = p) H v s' Fr := by
  cases s' with
  | dat d =>
    obtain ⟨h1, h2⟩ := h
    have key : (∀ ds, d = .lst ds → (∃ q, v = .ref q ∧ q ≠ p) ∧ ds.all noL = true) → ((∀ ds, d ≠ .lst ds) → noL d = true) → Dat Γ (fun q => M q ∨ q = p) H v d := fun k1 k2 => by
      cases d with
      | lst ds =>
        obtain ⟨⟨q, rfl, hq⟩, nn⟩ := k1 ds rfl
        cases h1 with
        | lst a b c => exact .lst (fun z => z.elim a hq) b (dats_add c nn hp)
      | _ => exact dat_add h1 (k2 fun ds z => by cases z) hp
    refine ⟨key (fun ds e => ?_) (fun ne => ?_), h2⟩
    · subst e
      cases s with
      | lst ds0 =>
        obtain ⟨q, ws, rfl, hq, _, hF⟩ := h0
        exact ⟨⟨q, rfl, fun z => n0 ((hF p).mpr z.symm)⟩, ok⟩
      | dat d0 =>
        cases d0 with
        | lst ds0 =>
          obtain ⟨h0, _⟩ := h0
          cases h0 with
          | lst a b c => exact ⟨⟨_, rfl, fun z => a (z ▸ m0)⟩, ok⟩
        | _ => cases ok
      | _ => cases ok
    · cases d with
      | lst ds => exact absurd rfl (ne ds)
      | _ =>
        cases s with
        | dat d0 => cases d0 <;> exact ok
        | none => cases ok
        | _ => exact ok
  | lst ds =>
    obtain ⟨q, ws, rfl, hq, hd, hF⟩ := h
    have n : ds.all noL = true := by
      cases s with
      | dat d0 => cases d0 <;> exact ok
      | none => cases ok
      | _ => exact ok
    exact ⟨q, ws, rfl, hq, dats_add hd n hp, hF⟩
  | ins c fs =>
    have n : okF fs = true := by
      cases s with
      | dat d0 => cases d0 <;> exact ok
      | none => cases ok
      | _ => exact ok
    obtain ⟨a, C, ns, dx, ws, G, e1, e2, hA, r, nG, hF⟩ := h
    exact ⟨a, C, ns, dx, ws, G, e1, e2, hA, fds_add r n hp, nG, hF⟩
  | obj o => cases s with | dat d0 => cases d0 <;> cases ok | _ => cases ok
  | none => cases s with | dat d0 => cases d0 <;> cases ok | _ => cases ok
  | scr _ => cases s with | dat d0 => cases d0 <;> cases ok | _ => cases ok
  | dic _ => cases s with | dat d0 => cases d0 <;> cases ok | _ => cases ok
def okLs : List (Sl Γ) → List (Sl Γ) → Bool
  | [], [] => true
  | s :: ss, t :: ts => okL s t && okLs ss ts
  | _, _ => false
theorem okLs_get : ∀ {ss ts : List (Sl Γ)} {i : Nat} {t : Sl Γ}, okLs ss ts = true → ts[i]? = some t → ∃ s, ss[i]? = some s ∧ okL s t = true
  | [], [], _, _, _, e => by simp at e
  | s :: ss, t :: ts, 0, _, h, e => by
    unfold okLs at h
    rw [Bool.and_eq_true] at h
    simp at e
    subst e
    exact ⟨s, rfl, h.1⟩
  | s :: ss, t :: ts, i + 1, _, h, e => by
    unfold okLs at h
    rw [Bool.and_eq_true] at h
    obtain ⟨s', h1, h2⟩ := okLs_get (i := i) h.2 (by simpa using e)
    exact ⟨s', by simpa using h1, h2⟩
  | [], _ :: _, _, _, h, _ => by cases h
  | _ :: _, [], _, _, h, _ => by cases h
theorem okLs_len : ∀ {ss ts : List (Sl Γ)}, okLs ss ts = true → ts.length = ss.length
  | [], [], _ => rfl
  | s :: ss, t :: ts, h => by
    unfold okLs at h
    rw [Bool.and_eq_true] at h
    rw [List.length_cons, List.length_cons, okLs_len h.2]
  | [], _ :: _, h => by cases h
  | _ :: _, [], h => by cases h
/-- the list at j is only read -/
def lend (j : Nat) (g : Fn Γ) : Fn Γ := fun args =>
  match args[j]? with
  | some (.lst ds) => match g (args.set j (.dat (.lst ds))) with
    | some (r, args') => if okRes r = true ∧ okLs args args' = true then some (r, args'.set j (.lst ds)) else none
    | none => none
  | _ => none
theorem lend_sp {np j : Nat} {g : Fn Γ} {vs : List V} {H : Hp} {Q : VK} {E : XK} (h : spG Γ np (lend j g) vs H Q E) : spG Γ np g vs H Q E := by
  obtain ⟨args, r, args', w, hg, hl, rfl, Er, k⟩ := h
  unfold lend at hg
  split at hg
  · rename_i ds gj
    split at hg
    · rename_i r1 args1 g1
      split at hg
      · rename_i ok
        cases hg
        have jl : j < args.length := (List.getElem?_eq_some_iff.mp gj).1
        obtain ⟨v0, ev, p, us, rfl, hp, hd, hF⟩ := Er.at (i := j) (s := .lst ds) (by rw [gj]; rfl)
        have fp : w.F j p := (hF p).mpr rfl
        have mp : w.M p := Er.sub j p fp
        have go0 : Go w.M w.H (fun q => w.M q ∧ q ≠ p) w.H := ⟨fun _ _ _ e => e, fun _ n _ z => n z.1⟩
        have E0 : ER Γ ⟨fun q => w.M q ∧ q ≠ p, fun i q => i ≠ j ∧ w.F i q, w.H⟩ (vs.map some) (args.set j (.dat (.lst ds))) := by
          refine ⟨by rw [List.length_set]; exact Er.len, fun i s e => ?_, fun i q f => ⟨Er.sub i q f.2, fun z => f.1 (Er.dis i j q f.2 (z ▸ fp))⟩, fun i l q f f' => Er.dis i l q f.2 f'.2, fun q m => Er.dom q m.1, fun i hi q f => Er.out i (by rw [List.length_set] at hi; exact hi) q f.2⟩
          by_cases c : i = j
          · subst c
            rw [List.getElem?_set_self jl] at e
            cases e
            exact .inr ⟨_, ev, .lst (fun z => z.2 rfl) hp (hd.go go0), fun q z => z.1 rfl⟩
          · rw [List.getElem?_set_ne (Ne.symm c)] at e
            have eF : (fun q => i ≠ j ∧ w.F i q) = w.F i := funext fun q => propext ⟨fun z => z.2, fun z => ⟨c, z⟩⟩
            rcases Er.slot i s e with ⟨z1, z2⟩ | ⟨v, e1, rv⟩
            · exact .inl ⟨z1, fun q z => z2 q z.2⟩
            · refine .inr ⟨v, e1, ?_⟩
              show SR Γ (fun q => w.M q ∧ q ≠ p) w.H v s (fun q => i ≠ j ∧ w.F i q)
              rw [eF]
              exact rv.go go0 fun _ _ _ e => e
        refine ⟨_, _, _, ⟨fun q => w.M q ∧ q ≠ p, fun i q => i ≠ j ∧ w.F i q, w.H⟩, g1, by rw [List.length_set]; exact hl, rfl, E0, fun v w' Fr E' T' p' f' => ?_⟩
        have hp' : w'.H p = some (.lst us) := p'.keep p _ (fun i z => z.1 (Er.dis i j p z.2 fp)) hp
        have np' : ¬ w'.M p := fun z => by
          rcases p'.src p z with y | y
          · exact y.2 rfl
          · have y' : w.H p = none := y
            rw [hp] at y'; cases y'
        have go1 : Go w.M w.H (fun q => w'.M q ∨ q = p) w'.H := ⟨fun q u n e => p'.keep q u (fun i z => n (Er.sub i q z.2)) e, fun q n e z => by
          rcases z with z | z
          · rcases p'.src q z with y | y
            · exact n y.1
            · exact e y
          · exact n (z ▸ mp)⟩
        have ll := okLs_len ok.2
        refine k v ⟨fun q => w'.M q ∨ q = p, fun i q => if i = j then q = p else w'.F i q, w'.H⟩ Fr ?_ ?_ ⟨fun q u n e => p'.keep q u (fun i z => n i z.2) e, fun q n m => ?_, fun q m => ?_, fun i q z => ?_, p'.live⟩ fun q f => ?_
        · refine ⟨by rw [List.length_set]; exact E'.len, fun i s e => ?_, fun i q z => ?_, fun i l q z z' => ?_, fun q m => ?_, fun i hi q z => ?_⟩
          · by_cases c : i = j
            · subst c
              rw [List.getElem?_set_self (by rw [ll]; exact jl)] at e
              cases e
              refine .inr ⟨_, ev, p, us, rfl, hp', hd.go go1, fun q => ?_⟩
              show (if i = i then q = p else w'.F i q) ↔ q = p
              rw [if_pos rfl]
            · rw [List.getElem?_set_ne (Ne.symm c)] at e
              obtain ⟨s0, e0, o0⟩ := okLs_get ok.2 e
              have eF : (fun q => if i = j then q = p else w'.F i q) = w'.F i := funext fun q => if_neg c
              rcases E'.slot i s e with ⟨z1, z2⟩ | ⟨u, e1, rv⟩
              · subst z1
                cases s0 with
                | dat d0 => cases d0 <;> cases o0
                | _ => cases o0
              · rcases Er.slot i s0 e0 with ⟨z1, _⟩ | ⟨u0, e2, rv0⟩
                · subst z1
                  cases o0
                · rw [e1] at e2
                  cases e2
                  refine .inr ⟨u, e1, ?_⟩
                  show SR Γ (fun q => w'.M q ∨ q = p) w'.H u s (fun q => if i = j then q = p else w'.F i q)
                  rw [eF]
                  exact okL_sr o0 rv hp' rv0 mp fun z => c (Er.dis i j p z fp)
          · have z' : (if i = j then q = p else w'.F i q) := z
            split at z'
            · exact .inr z'
            · exact .inl (E'.sub i q z')
          · have z1 : (if i = j then q = p else w'.F i q) := z
            have z2 : (if l = j then q = p else w'.F l q) := z'
            split at z1
            · rename_i c1
              split at z2
              · rename_i c2; rw [c1, c2]
              · exact absurd (E'.sub l q z2) (z1 ▸ np')
            · split at z2
              · exact absurd (E'.sub i q z1) (z2 ▸ np')
              · exact E'.dis i l q z1 z2
          · rcases m with m | m
            · exact E'.dom q m
            · rw [m, hp']; simp
          · rw [List.length_set, ll] at hi
            have z1 : (if i = j then q = p else w'.F i q) := z
            rw [if_neg (by omega)] at z1
            exact E'.out i (by rw [ll]; exact hi) q z1
        · refine ⟨?_, fun q f => .inl (T'.sub q f), fun q i f z => ?_⟩
          · have rep := T'.rep
            have okr := ok.1
            cases r with
            | dat d =>
              cases d with
              | tup ds1 => exact ⟨dat_add rep.1 okr hp', rep.2⟩
              | non => exact ⟨flat_dat rep.1 rfl, rep.2⟩
              | bl b => exact ⟨flat_dat rep.1 rfl, rep.2⟩
              | int b => exact ⟨flat_dat rep.1 rfl, rep.2⟩
              | str b => exact ⟨flat_dat rep.1 rfl, rep.2⟩
              | lst _ => cases okr
              | ins _ _ => cases okr
              | odd => cases okr
            | lst ds1 =>
              obtain ⟨q, ws, e1, e2, hd1, hf⟩ := rep
              exact ⟨q, ws, e1, e2, flat_dats hd1 okr, hf⟩
            | none => cases okr
            | scr _ => cases okr
            | dic _ => cases okr
            | ins _ _ => cases okr
            | obj _ => cases okr
          · have z1 : (if i = j then q = p else w'.F i q) := z
            split at z1
            · exact np' (z1 ▸ T'.sub q f)
            · exact T'.off q i f z1
        · by_cases c : q = p
          · exact .inr c
          · exact .inl (p'.mu q (fun i z => n i z.2) ⟨m, c⟩)
        · rcases m with m | m
          · exact (p'.src q m).imp (·.1) id
          · exact .inl (m ▸ mp)
        · have z1 : (if i = j then q = p else w'.F i q) := z
          split at z1
          · exact .inl ⟨j, z1 ▸ fp⟩
          · exact (p'.own i q z1).imp (fun ⟨l, y⟩ => ⟨l, y.2⟩) id
        · exact (f' q f).imp (fun ⟨l, y⟩ => ⟨l, y.2⟩) id
      · cases hg
    · cases hg
  · cases hg
end
end G

/-! the defs of the text, by gen00.py a -/
namespace K
open PySem L2 G
def topS (i : Nat) : Stmt := PySem.Challenge.pw_filedalike_k00_letters_made_and_refused.main.body.getD i (.Pass ⟨0, 0, 0, 0⟩)
/-- a short text -/
def okS (v : V) : Prop := ∃ y : Str, v = .str y ∧ y.length ≤ 100
structure Tx (Γ : Gam) (mg : Str → Option Value) (CB CC CM : Addr) : Prop where
  n_abs : mg "abs" = none
  n_all : mg "all" = none
  n_any : mg "any" = none
  n_bool : mg "bool" = none
  n_enumerate : mg "enumerate" = none
  n_int : mg "int" = none
  n_isinstance : mg "isinstance" = none
  n_len : mg "len" = none
  n_list : mg "list" = none
  n_max : mg "max" = none
  n_min : mg "min" = none
  n_range : mg "range" = none
  n_set : mg "set" = none
  n_sorted : mg "sorted" = none
  n_str : mg "str" = none
  n_super : mg "super" = none
  n_tuple : mg "tuple" = none
  g_ANSWERS_IN_ROW : ∃ t, mg "ANSWERS_IN_ROW" = some (.int 3 t)
  g_MOST_NUMBER : ∃ t, mg "MOST_NUMBER" = some (.int 1000000000000000000000000000000 t)
  g_MOST_SIGNS : ∃ t, mg "MOST_SIGNS" = some (.int 8 t)
  g_SIGNS : ∃ t, mg "SIGNS" = some (.str "abcdefghijklmnopqrstuvwxyz" t)
  g_SUBJECT_IN_ROW : ∃ t, mg "SUBJECT_IN_ROW" = some (.int 4 t)
  g_WORDS_IN_ROW : ∃ t, mg "WORDS_IN_ROW" = some (.int 8 t)
  f_number : FldOk Γ "number"
  f_person : FldOk Γ "person"
  f_house : FldOk Γ "house"
  f_sender : FldOk Γ "sender"
  f_answers : FldOk Γ "answers"
  f_subject : FldOk Γ "subject"
  f_words : FldOk Γ "words"
  f_text : FldOk Γ "text"
  k_MOST_ANSWERS : ClICa Γ mg "Letter" "MOST_ANSWERS" 8
  k_MOST_SUBJECT : ClICa Γ mg "Letter" "MOST_SUBJECT" 8
  k_MOST_WORDS : ClICa Γ mg "Letter" "MOST_WORDS" 40
  isN : INCa Γ mg 0 "Letter"
  mClash : mg "Clash" = some (.ref CC)
  mBad : mg "BadLetter" = some (.ref CB)
  mMail : mg "MailError" = some (.ref CM)
  xClash : PySem.W.exmOne Γ.K (.ref CB) (.ref CC) = some false
  xBad : PySem.W.exmOne Γ.K (.ref CB) (.ref CB) = some true
  xMail : PySem.W.exmOne Γ.K (.ref CB) (.ref CM) = some true
  xf : XfC Γ.K CB
  noF : PySem.W.findIn Γ.K (.ref CB) "field" = some none

section
variable {Γ : Gam} {P : Program} {w : World} {mg : Str → Option Value} {base : Heap} {CB CC CM : Addr}
abbrev s_is_name : Stmt := topS 8
theorem sc_is_name : FnScope ["value", "sign"] ["value"] (defScope s_is_name) := ⟨rfl, rfl, rfl, by decide +kernel, rfl, by decide +kernel, by decide +kernel⟩
def b_is_name : Es Γ := mSeq (mIfS (mNotT (mT (.ex (m1 (pIsi "str") (.brw 0))))) (mRet (mC (.bl false))) (mNx))
    (mSeq (mIfS (mNotT (toT (mChain pLe pLe (.ex (mC (.int 1))) (mN (pN1 pLen) [.brw 0]) (.ex (mC (.int 8)))))) (mRet (mC (.bl false))) (mNx))
    (mRet (mN (pN1 pAll) [.ex (mLc (iTxt (mVar 0)) [1] (gNm 1) (fun env => some (true, env)) (m2 pIn (.brw 1) (.ex (mC (.str "abcdefghijklmnopqrstuvwxyz")))))])))
def f_is_name : Fn Γ := mFun 1 1 [] b_is_name
abbrev s_is_number : Stmt := topS 9
theorem sc_is_number : FnScope ["value"] ["value"] (defScope s_is_number) := ⟨rfl, rfl, rfl, by decide +kernel, rfl, by decide +kernel, by decide +kernel⟩
def b_is_number : Es Γ := mSeq (mIfS (mOrT (mNotT (mT (.ex (m1 (pIsi "int") (.brw 0))))) (mT (.ex (m1 (pIsi "bool") (.brw 0))))) (mRet (mC (.bl false))) (mNx))
    (mRet (mChain pLe pLe (.ex (mC (.int 1))) (mVar 0) (.ex (mC (.int 1000000000000000000000000000000)))))
def f_is_number : Fn Γ := mFun 1 0 [] b_is_number
abbrev s_are_names : Stmt := topS 10
theorem sc_are_names : FnScope ["values", "most", "value"] ["values", "most"] (defScope s_are_names) := ⟨rfl, rfl, rfl, by decide +kernel, rfl, by decide +kernel, by decide +kernel⟩
def b_are_names : Es Γ := mSeq (mIfS (mOrT (mNotT (mT (.ex (m1 pIsLT (.brw 0))))) (toT (m2 pGt (.ex (mN (pN1 pLen) [.brw 0])) (.brw 1)))) (mRet (mC (.bl false))) (mNx))
    (mRet (mN (pN1 pAll) [.ex (mLc (iSeq (mVar 0)) [2] (gNm 2) (fun env => some (true, env)) (mFrz (mCall 1 f_is_name [.brw 2])))]))
def f_are_names : Fn Γ := mFun 2 1 [] b_are_names
abbrev s_fits_answers : Stmt := topS 17
theorem sc_fits_answers : FnScope ["number", "answers", "answer"] ["number", "answers"] (defScope s_fits_answers) := ⟨rfl, rfl, rfl, by decide +kernel, rfl, by decide +kernel, by decide +kernel⟩
def b_fits_answers : Es Γ := mSeq (mIfS (mOrT (mNotT (mT (.ex (m1 pIsLT (.brw 1))))) (toT (m2 pGt (.ex (mN (pN1 pLen) [.brw 1])) (.ex (mC (.int 8)))))) (mRet (mC (.bl false))) (mNx))
    (mSeq (mIfS (mNotT (mT (.ex (mN (pN1 pAll) [.ex (mLc (iSeq (mVar 1)) [2] (gNm 2) (fun env => some (true, env)) (mFrz (mCall 1 f_is_number [.brw 2])))])))) (mRet (mC (.bl false))) (mNx))
    (mRet (mAndV (m2 pNotIn (.brw 0) (.brw 1)) (m2 pEq (.ex (m1 pLenSet (.brw 1))) (.ex (mN (pN1 pLen) [.brw 1]))))))
def f_fits_answers : Fn Γ := mFun 2 1 [] b_fits_answers
abbrev s_wrapped : Stmt := topS 18
theorem sc_wrapped : FnScope ["lead", "items", "width", "parts", "at", "part"] ["lead", "items", "width"] (defScope s_wrapped) := ⟨rfl, rfl, rfl, by decide +kernel, rfl, by decide +kernel, by decide +kernel⟩
def b_wrapped : Es Γ := mSeq (mSet 3 (mLc (iRng3 (mN (pN1 pLen) [.brw 1]) (mVar 2)) [4] (gNm 4) (fun env => some (true, env)) (mFrz (mM1 pJoin (mC (.str " ")) (.ex (mSlB (.brw 1) (mVar 4) (m2 pAdd (.brw 4) (.brw 2))))))))
    (mRet (mLc (iEnu (mVar 3)) [4, 5] (gTp [gNm 4, gNm 5]) (fun env => some (true, env)) (mFrz (mIf (toT (m2 pEq (.brw 4) (.ex (mC (.int 0))))) (m2 pAdd (.brw 0) (.brw 5)) (m2 pAdd (.ex (mC (.str " "))) (.brw 5))))))
def f_wrapped : Fn Γ := mFun 3 3 [3] b_wrapped
abbrev s_body_rows : Stmt := topS 19
theorem sc_body_rows : FnScope ["words", "at"] ["words"] (defScope s_body_rows) := ⟨rfl, rfl, rfl, by decide +kernel, rfl, by decide +kernel, by decide +kernel⟩
def b_body_rows : Es Γ := mSeq (mIfS (mNotT (mT (.brw 0))) (mRet (mN pLstN [])) (mNx))
    (mRet (m2 pAdd (.ex (mN pLstN [.ex (mC (.str ""))])) (.ex (mLc (iRng3 (mN (pN1 pLen) [.brw 0]) (mC (.int 8))) [1] (gNm 1) (fun env => some (true, env)) (mFrz (mM1 pJoin (mC (.str " ")) (.ex (mSlB (.brw 0) (mVar 1) (m2 pAdd (.brw 1) (.ex (mC (.int 8))))))))))))
def f_body_rows : Fn Γ := mFun 1 1 [] b_body_rows
abbrev s_LT_init : Stmt := inClass (topS 16) 3
theorem sc_LT_init : FnScope ["self", "number", "person", "house", "answers", "subject", "words", "rows", "answer"] ["self", "number", "person", "house", "answers", "subject", "words"] (defScope s_LT_init) := ⟨rfl, rfl, rfl, by decide +kernel, rfl, by decide +kernel, by decide +kernel⟩
def b_LT_init : Es Γ := mSeq (mIfS (mNotT (mT (.ex (mCall 1 f_is_number [.brw 1])))) ((fun _ => none)) (mNx))
    (mSeq (mIfS (mNotT (mT (.ex (mCall 1 f_is_name [.brw 2])))) ((fun _ => none)) (mNx))
    (mSeq (mIfS (mNotT (mT (.ex (mCall 1 f_is_name [.brw 3])))) ((fun _ => none)) (mNx))
    (mSeq (mIfS (mNotT (mT (.ex (mCall 2 f_fits_answers [.brw 1, .brw 4])))) ((fun _ => none)) (mNx))
    (mSeq (mIfS (mNotT (mT (.ex (mCall 2 f_are_names [.brw 5, .ex (mC (.int 8))])))) ((fun _ => none)) (mNx))
    (mSeq (mIfS (mNotT (mT (.ex (mCall 2 f_are_names [.brw 6, .ex (mC (.int 40))])))) ((fun _ => none)) (mNx))
    (mSeq (mFSet 0 "number" (mVar 1))
    (mSeq (mFSet 0 "person" (mVar 2))
    (mSeq (mFSet 0 "house" (mVar 3))
    (mSeq (mFSet 0 "sender" (mFrz (m2 pAdd (.ex (m2 pAdd (.brw 2) (.ex (mC (.str " at "))))) (.brw 3))))
    (mSeq (mFSet 0 "answers" (mFrz (mN (pN1 pTuple) [.brw 4])))
    (mSeq (mFSet 0 "subject" (mFrz (mN (pN1 pTuple) [.brw 5])))
    (mSeq (mFSet 0 "words" (mFrz (mN (pN1 pTuple) [.brw 6])))
    (mSeq (mSet 7 (mN pLstN [.ex (mFs [.inl "number: ", .inr (.brw 1)]), .ex (mFs [.inl "from: ", .inr (.ex (mQ (.pl (.fl 0 "sender"))))])]))
    (mSeq (mSet 7 (m2 pAdd (.brw 7) (.ex (mCall 3 f_wrapped [.ex (mC (.str "answers: ")), .ex (mLc (iSeq (mVar 4)) [8] (gNm 8) (fun env => some (true, env)) (mFrz (mN (pN1 pStr) [.brw 8]))), .ex (mC (.int 3))]))))
    (mSeq (mSet 7 (m2 pAdd (.brw 7) (.ex (mCall 3 f_wrapped [.ex (mC (.str "subject: ")), .ex (mN (pN1 pList) [.brw 5]), .ex (mC (.int 4))]))))
    (mFSet 0 "text" (mFrz (mM1 pJoin (mC (.str "\n")) (.ex (m2 pAdd (.brw 7) (.ex (mCall 1 f_body_rows [.ex (mQ (.pl (.fl 0 "words")))]))))))))))))))))))))))
def f_LT_init : Fn Γ := mFun 7 2 [7] b_LT_init
def z_LT_init : Env Γ → Option Str := zIf (mNotT (mT (.ex (mCall 1 f_is_number [.brw 1])))) "number"
    (zIf (mNotT (mT (.ex (mCall 1 f_is_name [.brw 2])))) "person"
    (zIf (mNotT (mT (.ex (mCall 1 f_is_name [.brw 3])))) "house"
    (zIf (mNotT (mT (.ex (mCall 2 f_fits_answers [.brw 1, .brw 4])))) "answers"
    (zIf (mNotT (mT (.ex (mCall 2 f_are_names [.brw 5, .ex (mC (.int 8))])))) "subject"
    (zIf (mNotT (mT (.ex (mCall 2 f_are_names [.brw 6, .ex (mC (.int 40))])))) "words"
    ((fun _ => none)))))))
def zf_LT_init : List D → Option Str := fun ds => if ds.length + 1 = ["self", "number", "person", "house", "answers", "subject", "words"].length then z_LT_init (Γ := Γ) (.ins 0 [] :: ds.map .dat ++ List.replicate 2 .none) else none
abbrev s_LT_eq : Stmt := inClass (topS 16) 6
theorem sc_LT_eq : FnScope ["self", "other"] ["self", "other"] (defScope s_LT_eq) := ⟨rfl, rfl, rfl, by decide +kernel, rfl, by decide +kernel, by decide +kernel⟩
def b_LT_eq : Es Γ := mRet (mAndV (m1 (pIsN 0) (.brw 1)) (mAndV (m2 pEq (.ex (mQ (.pl (.fl 0 "number")))) (.ex (mQ (.pl (.fl 1 "number"))))) (mAndV (m2 pEq (.ex (mQ (.pl (.fl 0 "person")))) (.ex (mQ (.pl (.fl 1 "person"))))) (mAndV (m2 pEq (.ex (mQ (.pl (.fl 0 "house")))) (.ex (mQ (.pl (.fl 1 "house"))))) (mAndV (m2 pEq (.ex (mQ (.pl (.fl 0 "answers")))) (.ex (mQ (.pl (.fl 1 "answers"))))) (mAndV (m2 pEq (.ex (mQ (.pl (.fl 0 "subject")))) (.ex (mQ (.pl (.fl 1 "subject"))))) (m2 pEq (.ex (mQ (.pl (.fl 0 "words")))) (.ex (mQ (.pl (.fl 1 "words")))))))))))
def f_LT_eq : Fn Γ := mFun 2 0 [] b_LT_eq
abbrev s_law_bag : Stmt := topS 21
theorem sc_law_bag : FnScope ["_law_script", "_law_at", "_law_cell", "_law_blend", "_law_k", "_law_each"] ["_law_script", "_law_at"] (defScope s_law_bag) := ⟨rfl, rfl, rfl, by decide +kernel, rfl, by decide +kernel, by decide +kernel⟩
def b_law_bag : Es Γ := mSeq (mSet 2 (mIf (toT (m2 pLt (.brw 1) (.ex (mN (pN1 pLen) [.brw 0])))) (m2 pIx (.brw 0) (.brw 1)) (mC (.int 0))))
    (mSeq (mSet 3 (m2 pAdd (.ex (m2 pMul (.ex (mC (.int 7129))) (.brw 1))) (.ex (mC (.int 613)))))
    (mSeq (mFor (iEnu (mFrz (m2 pSl2 (.brw 0) (.ex (mC (.int 40)))))) (gTp [gNm 4, gNm 5])
    (mSet 3 (m2 pMod (.ex (mN (pN1 pInt) [.ex (m2 pAdd (.ex (m2 pAdd (.ex (m2 pAdd (.ex (m2 pMul (.brw 3) (.ex (mC (.int 50021))))) (.ex (m2 pMod (.ex (mN (pN1 pInt) [.brw 5])) (.ex (mC (.int 2147483563))))))) (.ex (m2 pMul (.ex (mC (.int 37))) (.brw 4))))) (.ex (mC (.int 5))))])) (.ex (mC (.int 2147483563))))))
    (mRet (mN pLstN [.ex (mFrz (mIf (toT (m2 pGe (.ex (mN (pN1 pAbs) [.brw 2])) (.ex (m2 pPow (.ex (mC (.int 10))) (.ex (mC (.int 18))))))) (mN (pN1 pAbs) [.brw 2]) (mC (.int 0)))), .ex (mVar 3)]))))
def f_law_bag : Fn Γ := mFun 2 4 [2, 3, 4, 5] b_law_bag
abbrev s_law_take : Stmt := topS 22
theorem sc_law_take : FnScope ["_law_bag_here", "_law_many", "_law_digit"] ["_law_bag_here", "_law_many"] (defScope s_law_take) := ⟨rfl, rfl, rfl, by decide +kernel, rfl, by decide +kernel, by decide +kernel⟩
def b_law_take : Es Γ := mSeq (mIfS (toT (m2 pGt (.ex (m2 pIx (.brw 0) (.ex (mC (.int 0))))) (.ex (mC (.int 0))))) (mSeq (mSet 2 (m2 pMod (.ex (mN (pN1 pInt) [.ex (m2 pIx (.brw 0) (.ex (mC (.int 0))))])) (.brw 1)))
    (mSeq (mSetIx 0 (m2 pDiv (.ex (m2 pIx (.brw 0) (.ex (mC (.int 0))))) (.brw 1)) (mC (.int 0)))
    (mRetMv 2))) (mNx))
    (mSeq (mSetIx 0 (m2 pMod (.ex (mN (pN1 pInt) [.ex (m2 pAdd (.ex (m2 pMul (.ex (m2 pIx (.brw 0) (.ex (mC (.int 1))))) (.ex (mC (.int 40014))))) (.ex (mC (.int 7919))))])) (.ex (mC (.int 2147483563)))) (mC (.int 1)))
    (mRet (m2 pMod (.ex (m2 pDiv (.ex (m2 pMod (.ex (mN (pN1 pInt) [.ex (m2 pMul (.ex (m2 pDiv (.ex (m2 pIx (.brw 0) (.ex (mC (.int 1))))) (.ex (mC (.int 7))))) (.ex (mC (.int 40692))))])) (.ex (mC (.int 2147483399))))) (.ex (mC (.int 16))))) (.brw 1))))
def f_law_take : Fn Γ := mFun 2 1 [2] b_law_take
abbrev s_law_name : Stmt := topS 23
theorem sc_law_name : FnScope ["_law_bag_here", "_law_size", "_law_k"] ["_law_bag_here"] (defScope s_law_name) := ⟨rfl, rfl, rfl, by decide +kernel, rfl, by decide +kernel, by decide +kernel⟩
def b_law_name : Es Γ := mSeq (mSet 1 (m2 pAdd (.ex (mC (.int 1))) (.ex (mCall 2 f_law_take [.brw 0, .ex (mC (.int 8))]))))
    (mRet (mM1 pJoin (mC (.str "")) (.ex (mLc (iRng (mVar 1)) [2] (gNm 2) (fun env => some (true, env)) (m2 pIx (.ex (mC (.str "abcdefghijklmnopqrstuvwxyz"))) (.ex (mCall 2 f_law_take [.brw 0, .ex (mC (.int 26))])))))))
def f_law_name : Fn Γ := mFun 1 2 [1] b_law_name
abbrev s_law_names : Stmt := topS 24
theorem sc_law_names : FnScope ["_law_bag_here", "_law_most", "_law_rows", "_law_k"] ["_law_bag_here", "_law_most"] (defScope s_law_names) := ⟨rfl, rfl, rfl, by decide +kernel, rfl, by decide +kernel, by decide +kernel⟩
def b_law_names : Es Γ := mSeq (mSet 2 (mLc (iRng (mCall 2 f_law_take [.brw 0, .ex (m2 pAdd (.brw 1) (.ex (mC (.int 1))))])) [3] (gNm 3) (fun env => some (true, env)) (mFrz (mCall 1 f_law_name [.brw 0]))))
    (mSeq (mIfS (mAndT (toT (m2 pGt (.ex (mN (pN1 pLen) [.brw 2])) (.ex (mC (.int 1))))) (toT (m2 pEq (.ex (mCall 2 f_law_take [.brw 0, .ex (mC (.int 3))])) (.ex (mC (.int 0)))))) (mSetIx 2 (m2 pIx (.brw 2) (.ex (m1 pNeg (.ex (mC (.int 1)))))) (mC (.int 0))) (mNx))
    (mRetMv 2))
def f_law_names : Fn Γ := mFun 2 2 [2] b_law_names
abbrev s_law_number : Stmt := topS 25
theorem sc_law_number : FnScope ["_law_bag_here"] ["_law_bag_here"] (defScope s_law_number) := ⟨rfl, rfl, rfl, by decide +kernel, rfl, by decide +kernel, by decide +kernel⟩
def b_law_number : Es Γ := mRet (m2 pIx (.ex (mN pLstN [.ex (mC (.int 1)), .ex (m2 pPow (.ex (mC (.int 10))) (.ex (mC (.int 30)))), .ex (mFrz (m2 pAdd (.ex (mC (.int 2))) (.ex (mCall 2 f_law_take [.brw 0, .ex (mC (.int 900))])))), .ex (mFrz (m2 pAdd (.ex (mC (.int 1))) (.ex (mCall 2 f_law_take [.brw 0, .ex (m2 pPow (.ex (mC (.int 10))) (.ex (mC (.int 30))))]))))])) (.ex (mCall 2 f_law_take [.brw 0, .ex (mC (.int 4))])))
def f_law_number : Fn Γ := mFun 1 0 [] b_law_number
abbrev s_law_answers : Stmt := topS 26
theorem sc_law_answers : FnScope ["_law_bag_here", "_law_number_here", "_law_rows", "_law_last", "_law_k"] ["_law_bag_here", "_law_number_here"] (defScope s_law_answers) := ⟨rfl, rfl, rfl, by decide +kernel, rfl, by decide +kernel, by decide +kernel⟩
def b_law_answers : Es Γ := mSeq (mPar 2 3 (mN pLstN []) (mVar 1))
    (mSeq (mFor (iRng (m2 pIx (.ex (mN pLstN [.ex (mC (.int 0)), .ex (mC (.int 1)), .ex (mC (.int 2)), .ex (mC (.int 8)), .ex (mFrz (mCall 2 f_law_take [.brw 0, .ex (mC (.int 9))]))])) (.ex (mCall 2 f_law_take [.brw 0, .ex (mC (.int 5))])))) (gNm 4)
    (mSeq (mSet 3 (m2 pAdd (.ex (m2 pMod (.ex (mN (pN1 pInt) [.ex (m2 pAdd (.brw 3) (.ex (mCall 2 f_law_take [.brw 0, .ex (mC (.int 1000))])))])) (.ex (m2 pPow (.ex (mC (.int 10))) (.ex (mC (.int 30))))))) (.ex (mC (.int 1)))))
    (mIfS (mAndT (toT (m2 pNotIn (.brw 3) (.brw 2))) (toT (m2 pNe (.brw 3) (.brw 1)))) (mDrop (mMut 2 uAppend [.ex (mVar 3)])) (mNx))))
    (mRetMv 2))
def f_law_answers : Fn Γ := mFun 2 3 [2, 3, 4] b_law_answers
abbrev s_law_fields : Stmt := topS 27
theorem sc_law_fields : FnScope ["_law_bag_here", "_law_number_here", "_law_size", "_law_words", "_law_k"] ["_law_bag_here"] (defScope s_law_fields) := ⟨rfl, rfl, rfl, by decide +kernel, rfl, by decide +kernel, by decide +kernel⟩
def b_law_fields : Es Γ := mSeq (mSet 1 (mCall 1 f_law_number [.brw 0]))
    (mSeq (mSet 2 (m2 pIx (.ex (mN pLstN [.ex (mC (.int 0)), .ex (mC (.int 1)), .ex (mC (.int 8)), .ex (mC (.int 40)), .ex (mFrz (mCall 2 f_law_take [.brw 0, .ex (mC (.int 12))]))])) (.ex (mCall 2 f_law_take [.brw 0, .ex (mC (.int 5))]))))
    (mSeq (mSet 3 (mLc (iRng (mVar 2)) [4] (gNm 4) (fun env => some (true, env)) (mFrz (mCall 1 f_law_name [.brw 0]))))
    (mRet (mN pLstN [.ex (mVar 1), .ex (mFrz (mCall 1 f_law_name [.brw 0])), .ex (mFrz (mCall 1 f_law_name [.brw 0])), .ex (mFrz (mCall 2 f_law_answers [.brw 0, .brw 1])), .ex (mFrz (mCall 2 f_law_names [.brw 0, .ex (mC (.int 8))])), .ex (mVar 3)]))))
def f_law_fields : Fn Γ := mFun 1 4 [1, 2, 3] b_law_fields
abbrev s_law_letter : Stmt := topS 28
theorem sc_law_letter : FnScope ["_law_fields_here"] ["_law_fields_here"] (defScope s_law_letter) := ⟨rfl, rfl, rfl, by decide +kernel, rfl, by decide +kernel, by decide +kernel⟩
def b_law_letter : Es Γ := mRet (mMakeK 0 7 f_LT_init 3 [] [.ex (m2 pIx (.brw 0) (.ex (mC (.int 0)))), .ex (m2 pIx (.brw 0) (.ex (mC (.int 1)))), .ex (m2 pIx (.brw 0) (.ex (mC (.int 2)))), .ex (mN (pN1 pList) [.ex (m2 pIx (.brw 0) (.ex (mC (.int 3))))]), .ex (mN (pN1 pList) [.ex (m2 pIx (.brw 0) (.ex (mC (.int 4))))]), .ex (mN (pN1 pList) [.ex (m2 pIx (.brw 0) (.ex (mC (.int 5))))])])
def f_law_letter : Fn Γ := mFun 1 0 [] b_law_letter
abbrev s_law_bad : Stmt := topS 29
theorem sc_law_bad : FnScope ["_law_bag_here", "_law_field", "_law_fields_here", "_law_long_name", "_law_number_here", "_law_k", "_law_most"] ["_law_bag_here", "_law_field", "_law_fields_here"] (defScope s_law_bad) := ⟨rfl, rfl, rfl, by decide +kernel, rfl, by decide +kernel, by decide +kernel⟩
def b_law_bad : Es Γ := mSeq (mSet 3 (mC (.str "abcdefghi")))
    (mSeq (mIfS (toT (m2 pEq (.brw 1) (.ex (mC (.int 0))))) (mRet (m2 pIx (.ex (mN pLstN [.ex (mC (.int 0)), .ex (mFrz (m2 pAdd (.ex (m2 pPow (.ex (mC (.int 10))) (.ex (mC (.int 30))))) (.ex (mC (.int 1))))), .ex (m2 pSub (.ex (m1 pNeg (.ex (mC (.int 1))))) (.ex (mCall 2 f_law_take [.brw 0, .ex (mC (.int 99))]))), .ex (mC (.bl true)), .ex (mC (.str "7")), .ex (mC .non)])) (.ex (mCall 2 f_law_take [.brw 0, .ex (mC (.int 6))])))) (mNx))
    (mSeq (mIfS (toT (m2 pLt (.brw 1) (.ex (mC (.int 3))))) (mRet (m2 pIx (.ex (mN pLstN [.ex (mC (.str "")), .ex (mVar 3), .ex (mC (.str "Ann")), .ex (mC (.str "a b")), .ex (mC (.str "an9")), .ex (mC .non), .ex (mC (.int 5)), .ex (mFrz (mN pLstN [.ex (mC (.str "ann"))]))])) (.ex (mCall 2 f_law_take [.brw 0, .ex (mC (.int 8))])))) (mNx))
    (mSeq (mIfS (toT (m2 pEq (.brw 1) (.ex (mC (.int 3))))) (mSeq (mSet 4 (mIf (mT (.ex (m1 (pIsi "int") (.ex (m2 pIx (.brw 2) (.ex (mC (.int 0)))))))) (m2 pIx (.brw 2) (.ex (mC (.int 0)))) (mC (.int 3))))
    (mRet (m2 pIx (.ex (mN pLstN [.ex (mFrz (mN pLstN [.ex (mVar 4)])), .ex (mFrz (mN pLstN [.ex (mC (.int 12)), .ex (mC (.int 12))])), .ex (mFrz (mN pLstN [.ex (mC (.int 4)), .ex (mC (.int 5)), .ex (mC (.int 4))])), .ex (mFrz (mN pLstN [.ex (mC (.int 0))])), .ex (mFrz (mN pLstN [.ex (mC (.bl true))])), .ex (mFrz (mN pLstN [.ex (mFrz (m2 pAdd (.ex (m2 pPow (.ex (mC (.int 10))) (.ex (mC (.int 30))))) (.ex (mC (.int 1)))))])), .ex (mFrz (mN pLstN [.ex (mC (.str "3"))])), .ex (mC (.str "34")), .ex (mC .non), .ex (mC .odd), .ex (mC (.int 5)), .ex (mFrz (mLc (iRng (mC (.int 9))) [5] (gNm 5) (fun env => some (true, env)) (mFrz (m2 pAdd (.ex (m2 pMul (.ex (mC (.int 2))) (.ex (m2 pPow (.ex (mC (.int 10))) (.ex (mC (.int 9))))))) (.brw 5)))))])) (.ex (mCall 2 f_law_take [.brw 0, .ex (mC (.int 12))]))))) (mNx))
    (mSeq (mSet 6 (m2 pIx (.ex (mN pLstN [.ex (mC (.int 8)), .ex (mC (.int 40))])) (.ex (m2 pSub (.brw 1) (.ex (mC (.int 4)))))))
    (mRet (m2 pIx (.ex (mN pLstN [.ex (mFrz (m2 pRep (.ex (mN pLstN [.ex (mC (.str "ab"))])) (.ex (m2 pAdd (.brw 6) (.ex (mC (.int 1))))))), .ex (mFrz (mN pLstN [.ex (mC (.str ""))])), .ex (mFrz (mN pLstN [.ex (mC (.str "ok")), .ex (mC (.str "No"))])), .ex (mFrz (mN pLstN [.ex (mC (.str "ok")), .ex (mC (.int 3))])), .ex (mC (.str "ab")), .ex (mC .non), .ex (mFrz (mN pLstN [.ex (mVar 3)])), .ex (mC .odd), .ex (mC (.int 7))])) (.ex (mCall 2 f_law_take [.brw 0, .ex (mC (.int 9))]))))))))
def f_law_bad : Fn Γ := mFun 3 4 [3, 4, 6] b_law_bad
abbrev s_law_refused : Stmt := topS 30
theorem sc_law_refused : FnScope ["_law_fields_here", "_law_told", "error"] ["_law_fields_here"] (defScope s_law_refused) := ⟨rfl, rfl, rfl, by decide +kernel, rfl, by decide +kernel, by decide +kernel⟩
def b_law_refused : Es Γ := mSeq (mSet 1 (mC .non))
    (mSeq (mTryR (mMakeK 0 7 f_LT_init 3 [] [.ex (m2 pIx (.brw 0) (.ex (mC (.int 0)))), .ex (m2 pIx (.brw 0) (.ex (mC (.int 1)))), .ex (m2 pIx (.brw 0) (.ex (mC (.int 2)))), .ex (m2 pIx (.brw 0) (.ex (mC (.int 3)))), .ex (m2 pIx (.brw 0) (.ex (mC (.int 4)))), .ex (m2 pIx (.brw 0) (.ex (mC (.int 5))))]) (zMake (zf_LT_init (Γ := Γ)) 3 [] [.ex (m2 pIx (.brw 0) (.ex (mC (.int 0)))), .ex (m2 pIx (.brw 0) (.ex (mC (.int 1)))), .ex (m2 pIx (.brw 0) (.ex (mC (.int 2)))), .ex (m2 pIx (.brw 0) (.ex (mC (.int 3)))), .ex (m2 pIx (.brw 0) (.ex (mC (.int 4)))), .ex (m2 pIx (.brw 0) (.ex (mC (.int 5))))]) 1 2)
    (mRetMv 1))
def f_law_refused : Fn Γ := mFun 1 2 [1, 2] b_law_refused
abbrev s_law_caught : Stmt := topS 31
theorem sc_law_caught : FnScope ["_law_fields_here"] ["_law_fields_here"] (defScope s_law_caught) := ⟨rfl, rfl, rfl, by decide +kernel, rfl, by decide +kernel, by decide +kernel⟩
def b_law_caught : Es Γ := mSeq (mTryC (mMakeK 0 7 f_LT_init 3 [] [.ex (m2 pIx (.brw 0) (.ex (mC (.int 0)))), .ex (m2 pIx (.brw 0) (.ex (mC (.int 1)))), .ex (m2 pIx (.brw 0) (.ex (mC (.int 2)))), .ex (m2 pIx (.brw 0) (.ex (mC (.int 3)))), .ex (m2 pIx (.brw 0) (.ex (mC (.int 4)))), .ex (m2 pIx (.brw 0) (.ex (mC (.int 5))))]) (zMake (zf_LT_init (Γ := Γ)) 3 [] [.ex (m2 pIx (.brw 0) (.ex (mC (.int 0)))), .ex (m2 pIx (.brw 0) (.ex (mC (.int 1)))), .ex (m2 pIx (.brw 0) (.ex (mC (.int 2)))), .ex (m2 pIx (.brw 0) (.ex (mC (.int 3)))), .ex (m2 pIx (.brw 0) (.ex (mC (.int 4)))), .ex (m2 pIx (.brw 0) (.ex (mC (.int 5))))]))
    (mRet (mC (.bl false)))
def f_law_caught : Fn Γ := mFun 1 0 [] b_law_caught
abbrev s_law_are_told : Stmt := topS 32
theorem sc_law_are_told : FnScope ["_law_fields_here", "_law_odd", "_law_each"] ["_law_fields_here"] (defScope s_law_are_told) := ⟨rfl, rfl, rfl, by decide +kernel, rfl, by decide +kernel, by decide +kernel⟩
def b_law_are_told : Es Γ := mSeq (mIfS (mOrT (mNotT (mT (.ex (mCall 1 f_is_name [.ex (m2 pIx (.brw 0) (.ex (mC (.int 1))))])))) (mOrT (mNotT (mT (.ex (mCall 1 f_is_name [.ex (m2 pIx (.brw 0) (.ex (mC (.int 2))))])))) (mOrT (mNotT (mT (.ex (mCall 1 f_is_number [.ex (m2 pIx (.brw 0) (.ex (mC (.int 0))))])))) (mT (.ex (mCall 1 f_is_number [.ex (m2 pIx (.brw 0) (.ex (mC (.int 1))))])))))) (mRet (mC (.bl false))) (mNx))
    (mSeq (mSet 1 (mN pLstN [.ex (mC (.str "")), .ex (mC (.str "abcdefghi")), .ex (mC (.str "Ann")), .ex (mC (.str "a b")), .ex (mC (.str "an9")), .ex (mC .non), .ex (mC (.int 5)), .ex (mFrz (mN pLstN [.ex (mC (.str "ann"))])), .ex (mFrz (m2 pAdd (.ex (m2 pIx (.brw 0) (.ex (mC (.int 1))))) (.ex (mC (.str "-"))))), .ex (mFrz (mUp (m2 pIx (.brw 0) (.ex (mC (.int 1)))))), .ex (mC (.bl true))]))
    (mSeq (mIfS (mOrT (mT (.ex (mN (pN1 pAny) [.ex (mLc (iSeq (mVar 1)) [2] (gNm 2) (fun env => some (true, env)) (mFrz (mCall 1 f_is_name [.brw 2])))]))) (mT (.ex (mCall 1 f_is_name [.ex (m2 pIx (.brw 0) (.ex (mC (.int 0))))])))) (mRet (mC (.bl false))) (mNx))
    (mRet (mNotE (mN (pN1 pAny) [.ex (mLc (iSeq (mFrz (mN pLstN [.ex (mC (.int 0)), .ex (mFrz (m2 pAdd (.ex (m2 pPow (.ex (mC (.int 10))) (.ex (mC (.int 30))))) (.ex (mC (.int 1))))), .ex (m1 pNeg (.ex (m2 pIx (.brw 0) (.ex (mC (.int 0)))))), .ex (mC (.bl true)), .ex (mC (.str "7")), .ex (mC .non), .ex (mFrz (mN pLstN [.ex (mC (.int 1))]))]))) [2] (gNm 2) (fun env => some (true, env)) (mFrz (mCall 1 f_is_number [.brw 2])))])))))
def f_law_are_told : Fn Γ := mFun 1 2 [1] b_law_are_told
abbrev s_law_is_made : Stmt := topS 33
theorem sc_law_is_made : FnScope ["_law_fields_here", "_law_answers_here", "_law_subject", "_law_words", "_law_letter_here"] ["_law_fields_here"] (defScope s_law_is_made) := ⟨rfl, rfl, rfl, by decide +kernel, rfl, by decide +kernel, by decide +kernel⟩
def b_law_is_made : Es Γ := mSeq (mPar3 1 2 3 (mN (pN1 pList) [.ex (m2 pIx (.brw 0) (.ex (mC (.int 3))))]) (mN (pN1 pList) [.ex (m2 pIx (.brw 0) (.ex (mC (.int 4))))]) (mN (pN1 pList) [.ex (m2 pIx (.brw 0) (.ex (mC (.int 5))))]))
    (mSeq (mSet 4 (mMakeK 0 7 (lend 4 (lend 6 f_LT_init)) 3 [] [.ex (m2 pIx (.brw 0) (.ex (mC (.int 0)))), .ex (m2 pIx (.brw 0) (.ex (mC (.int 1)))), .ex (m2 pIx (.brw 0) (.ex (mC (.int 2)))), .brw 1, .ex (mN (pN1 pTuple) [.brw 2]), .brw 3]))
    (mSeq (mIfS (mOrT (toT (m2 pNe (.brw 1) (.ex (m2 pIx (.brw 0) (.ex (mC (.int 3))))))) (mOrT (toT (m2 pNe (.brw 2) (.ex (m2 pIx (.brw 0) (.ex (mC (.int 4))))))) (toT (m2 pNe (.brw 3) (.ex (m2 pIx (.brw 0) (.ex (mC (.int 5))))))))) (mRet (mC (.bl false))) (mNx))
    (mSeq (mDrop (mMut 1 uAppend [.ex (mC (.int 1))]))
    (mSeq (mDrop (mMut 3 uAppend [.ex (mC (.str "late"))]))
    (mSeq (mIfS (mOrT (toT (m2 pNe (.ex (mQ (.pl (.fl 4 "number")))) (.ex (m2 pIx (.brw 0) (.ex (mC (.int 0))))))) (mT (.ex (m1 (pIsi "bool") (.ex (mQ (.pl (.fl 4 "number")))))))) (mRet (mC (.bl false))) (mNx))
    (mSeq (mIfS (mOrT (toT (m2 pNe (.ex (mQ (.pl (.fl 4 "person")))) (.ex (m2 pIx (.brw 0) (.ex (mC (.int 1))))))) (toT (m2 pNe (.ex (mQ (.pl (.fl 4 "house")))) (.ex (m2 pIx (.brw 0) (.ex (mC (.int 2)))))))) (mRet (mC (.bl false))) (mNx))
    (mSeq (mIfS (toT (m2 pNe (.ex (mQ (.pl (.fl 4 "sender")))) (.ex (m2 pAdd (.ex (m2 pAdd (.ex (m2 pIx (.brw 0) (.ex (mC (.int 1))))) (.ex (mC (.str " at "))))) (.ex (m2 pIx (.brw 0) (.ex (mC (.int 2))))))))) (mRet (mC (.bl false))) (mNx))
    (mSeq (mIfS (mOrT (toT (m2 pNe (.ex (mQ (.pl (.fl 4 "answers")))) (.ex (mN (pN1 pTuple) [.ex (m2 pIx (.brw 0) (.ex (mC (.int 3))))])))) (toT (m2 pNe (.ex (mQ (.pl (.fl 4 "subject")))) (.ex (mN (pN1 pTuple) [.ex (m2 pIx (.brw 0) (.ex (mC (.int 4))))]))))) (mRet (mC (.bl false))) (mNx))
    (mRet (mAndV (m2 pEq (.ex (mQ (.pl (.fl 4 "words")))) (.ex (mN (pN1 pTuple) [.ex (m2 pIx (.brw 0) (.ex (mC (.int 5))))]))) (mAndV (mOwn (fitO 0) 0 f_LT_eq (.brw 4) (.ex (mCall 1 f_law_letter [.brw 0]))) (mOwnN 0 f_LT_eq (.brw 4) (.ex (mQ (.pl (.fl 4 "number"))))))))))))))))
def f_law_is_made : Fn Γ := mFun 1 4 [1, 2, 3, 4] b_law_is_made
abbrev s_law : Stmt := topS 34
theorem sc_law : FnScope ["_law_script", "_law_names_here", "_law_short", "_law_at", "_law_bag_here", "_law_fields_here", "_law_other", "_law_place", "_law_fresh", "_law_spoiled", "_law_wrong"] ["_law_script"] (defScope s_law) := ⟨rfl, rfl, rfl, by decide +kernel, rfl, by decide +kernel, by decide +kernel⟩
def b_law : Es Γ := mSeq (mSet 1 (mN pLstN [.ex (mC (.str "number")), .ex (mC (.str "person")), .ex (mC (.str "house")), .ex (mC (.str "answers")), .ex (mC (.str "subject")), .ex (mC (.str "words"))]))
    (mSeq (mSet 2 (mMakeK 0 7 f_LT_init 3 [.tup [], .tup [], .tup []] [.ex (mC (.int 5)), .ex (mC (.str "ann")), .ex (mC (.str "oak"))]))
    (mSeq (mIfS (mOrT (toT (m2 pNe (.ex (mQ (.pl (.fl 2 "answers")))) (.ex (mN pTupN [])))) (mOrT (toT (m2 pNe (.ex (mQ (.pl (.fl 2 "subject")))) (.ex (mN pTupN [])))) (mOrT (toT (m2 pNe (.ex (mQ (.pl (.fl 2 "words")))) (.ex (mN pTupN [])))) (toT (mOwnN 0 f_LT_eq (.brw 2) (.ex (mMakeK 0 7 f_LT_init 3 [.tup [], .tup []] [.ex (mC (.int 5)), .ex (mC (.str "ann")), .ex (mC (.str "oak")), .ex (mN pLstN [])]))))))) (mRet (mC (.bl false))) (mNx))
    (mSeq (mFor (iRng (mN (pN2 pMax2) [.ex (mC (.int 1)), .ex (mN (pN2 pMin2) [.ex (mC (.int 3)), .ex (mN (pN1 pLen) [.brw 0])])])) (gNm 3)
    (mSeq (mSet 4 (mCall 2 f_law_bag [.brw 0, .brw 3]))
    (mSeq (mSet 5 (mCall 1 f_law_fields [.brw 4]))
    (mSeq (mIfS (mNotT (mT (.ex (mCall 1 f_law_is_made [.brw 5])))) (mRet (mC (.bl false))) (mNx))
    (mSeq (mPar 6 7 (mN (pN1 pList) [.brw 5]) (mCall 2 f_law_take [.brw 4, .ex (mC (.int 6))]))
    (mSeq (mSet 8 (mCall 1 f_law_fields [.brw 4]))
    (mSeq (mIfS (mAndT (toT (m2 pNe (.brw 7) (.ex (mC (.int 3))))) (toT (m2 pNe (.brw 7) (.ex (mC (.int 0)))))) (mSetIx 6 (m2 pIx (.brw 8) (.brw 7)) (mVar 7)) (mNx))
    (mSeq (mIfS (toT (m2 pEq (.brw 7) (.ex (mC (.int 0))))) (mSet 6 (mN pLstN [.ex (mFrz (m2 pAdd (.ex (m2 pMod (.ex (mN (pN1 pInt) [.ex (m2 pIx (.brw 5) (.ex (mC (.int 0))))])) (.ex (m2 pPow (.ex (mC (.int 10))) (.ex (mC (.int 30))))))) (.ex (mC (.int 1))))), .ex (m2 pIx (.brw 5) (.ex (mC (.int 1)))), .ex (m2 pIx (.brw 5) (.ex (mC (.int 2)))), .ex (mFrz (mN pLstN [])), .ex (m2 pIx (.brw 5) (.ex (mC (.int 4)))), .ex (m2 pIx (.brw 5) (.ex (mC (.int 5))))])) (mNx))
    (mSeq (mIfS (toT (m2 pEq (.brw 7) (.ex (mC (.int 3))))) (mSetIx 6 (mFrz (m1 pRev (.ex (m2 pIx (.brw 6) (.ex (mC (.int 3))))))) (mC (.int 3))) (mNx))
    (mSeq (mIfS (toT (m2 pNe (.ex (mOwn (fitO 0) 0 f_LT_eq (.ex (mCall 1 f_law_letter [.brw 5])) (.ex (mCall 1 f_law_letter [.brw 6])))) (.ex (m2 pEq (.brw 5) (.brw 6))))) (mRet (mC (.bl false))) (mNx))
    (mSeq (mPar 9 10 (mN (pN1 pList) [.brw 5]) (mN (pN1 pSorted) [.ex (mN pLstN [.ex (mFrz (mCall 2 f_law_take [.brw 4, .ex (mC (.int 6))])), .ex (mFrz (mCall 2 f_law_take [.brw 4, .ex (mC (.int 6))]))])]))
    (mSeq (mFor (iSeq (mVar 10)) (gNm 7)
    (mSetIx 9 (mFrz (mCall 3 f_law_bad [.brw 4, .brw 7, .brw 9])) (mVar 7)))
    (mSeq (mIfS (mOrT (toT (m2 pNe (.ex (mCall 1 f_law_refused [.brw 9])) (.ex (m2 pIx (.brw 1) (.ex (m2 pIx (.brw 10) (.ex (mC (.int 0))))))))) (mNotT (mT (.ex (mCall 1 f_law_caught [.brw 9]))))) (mRet (mC (.bl false))) (mNx))
    (mIfS (mOrT (toT (m2 pIsNot (.ex (mCall 1 f_law_refused [.brw 5])) (.ex (mC .non)))) (mOrT (mNotT (mT (.ex (mCall 1 f_law_is_made [.brw 5])))) (mNotT (mT (.ex (mCall 1 f_law_are_told [.brw 5])))))) (mRet (mC (.bl false))) (mNx)))))))))))))))
    (mRet (mC (.bl true))))))
def f_law : Fn Γ := mFun 1 10 [1, 2, 3, 4, 5, 6, 7, 8, 9, 10] b_law
end
end K

/-! the defs of the text, by gen00.py b -/
namespace K
open PySem L2 G
section
variable {Γ : Gam} {P : Program} {w : World} {mg : Str → Option Value} {base : Heap} {CB CC CM : Addr}
theorem d_is_name {f : Addr} {fd : FuncData} (F : Fun Γ.K "is_name" "is_name" s_is_name f fd) (T : Tx Γ mg CB CC CM) : FnOk P w Γ.K mg base CX0 1 f fd ["value"] (spG Γ 1 f_is_name) := by
  refine fn_okG (k := 0) (A := []) (body := b_is_name) F sc_is_name rfl rfl rfl fun cdv Ar outer s H E hr => ?_
  unfold b_is_name
  have e : defBody s_is_name = [_, _, _] := rfl
  rw [e]
  refine sdss_cons ?_ ?_
  · exact sds_if (sdt_not (sdt_tru (sda_ex (sd_isi (T := "str") (by unfold fiveTy; simp) rfl T.n_isinstance rfl T.n_str (by decide +kernel) (sda_var 0) (fun _ => rfl))))) (sdss_one (sds_ret (sd_bl))) (sdss_nil)
  refine sdss_cons ?_ ?_
  · exact sds_if (sdt_not (sdt_chain c_le c_le (sda_ex (sd_int)) (sd_callB b_len rfl T.n_len (by decide +kernel) (.cons (sda_var 0) (fun _ => rfl) (.nil))) (sda_ex (sd_gI rfl T.g_MOST_SIGNS)))) (sdss_one (sds_ret (sd_bl))) (sdss_nil)
  refine sdss_one ?_
  exact sds_ret (sd_callB b_all rfl T.n_all (by decide +kernel) (.cons (sda_ex (sd_lc (own := [("sign", 1)]) (blkOk_by (by exact rfl)) (sdi_str (sd_var 0)) (fun _ _ _ _ _ => sdg_name 1 (by simp) rfl (by first | exact Or.inl rfl | exact Or.inr rfl) (by first | exact Or.inl rfl | exact Or.inr rfl)) .nil (fun _ _ _ _ _ => sd_cmp c_in (sda_var 1) (sda_ex (sd_gS rfl T.g_SIGNS))))) (fun _ => rfl) (.nil)))

theorem d_is_number {f : Addr} {fd : FuncData} (F : Fun Γ.K "is_number" "is_number" s_is_number f fd) (T : Tx Γ mg CB CC CM) : FnOk P w Γ.K mg base CX0 1 f fd ["value"] (spG Γ 1 f_is_number) := by
  refine fn_okG (k := 0) (A := []) (body := b_is_number) F sc_is_number rfl rfl rfl fun cdv Ar outer s H E hr => ?_
  unfold b_is_number
  have e : defBody s_is_number = [_, _] := rfl
  rw [e]
  refine sdss_cons ?_ ?_
  · exact sds_if (SdW.t (sdw_or (sdt_not (sdt_tru (sda_ex (sd_isi (T := "int") (by unfold fiveTy; simp) rfl T.n_isinstance rfl T.n_int (by decide +kernel) (sda_var 0) (fun _ => rfl))))) (sdw_or1 (sdt_tru (sda_ex (sd_isi (T := "bool") (by unfold fiveTy; simp) rfl T.n_isinstance rfl T.n_bool (by decide +kernel) (sda_var 0) (fun _ => rfl))))))) (sdss_one (sds_ret (sd_bl))) (sdss_nil)
  refine sdss_one ?_
  exact sds_ret (sd_chain c_le c_le (sda_ex (sd_int)) (sd_var 0) (sda_ex (sd_gI rfl T.g_MOST_NUMBER)))

theorem d_are_names {f : Addr} {fd : FuncData} (F : Fun Γ.K "are_names" "are_names" s_are_names f fd) (T : Tx Γ mg CB CC CM) (C_is_name : Ca Γ P w mg base "is_name" 1 f_is_name 1) : FnOk P w Γ.K mg base CX0 2 f fd ["values", "most"] (spG Γ 2 f_are_names) := by
  refine fn_okG (k := 1) (A := []) (body := b_are_names) F sc_are_names rfl rfl rfl fun cdv Ar outer s H E hr => ?_
  unfold b_are_names
  have e : defBody s_are_names = [_, _] := rfl
  rw [e]
  refine sdss_cons ?_ ?_
  · exact sds_if (SdW.t (sdw_or (sdt_not (sdt_tru (sda_ex (sd_isLT rfl T.n_isinstance rfl T.n_list rfl T.n_tuple (sda_var 0) (fun _ => rfl))))) (sdw_or1 (sdt_cmp c_gt (sda_ex (sd_callB b_len rfl T.n_len (by decide +kernel) (.cons (sda_var 0) (fun _ => rfl) (.nil)))) (sda_var 1))))) (sdss_one (sds_ret (sd_bl))) (sdss_nil)
  refine sdss_one ?_
  exact sds_ret (sd_callB b_all rfl T.n_all (by decide +kernel) (.cons (sda_ex (sd_lc (own := [("value", 2)]) (blkOk_by (by exact rfl)) (sdi_seq (sd_var 0)) (fun _ _ _ _ _ => sdg_name 2 (by simp) rfl (by first | exact Or.inl rfl | exact Or.inr rfl) (by first | exact Or.inl rfl | exact Or.inr rfl)) .nil (fun _ _ _ _ _ => sd_frz (sd_call (Ca.df rfl C_is_name hr (by decide)) rfl (.cons (sda_var 2) (fun _ => rfl) (.nil)))))) (fun _ => rfl) (.nil)))

theorem d_fits_answers {f : Addr} {fd : FuncData} (F : Fun Γ.K "fits_answers" "fits_answers" s_fits_answers f fd) (T : Tx Γ mg CB CC CM) (C_is_number : Ca Γ P w mg base "is_number" 1 f_is_number 1) : FnOk P w Γ.K mg base CX0 2 f fd ["number", "answers"] (spG Γ 2 f_fits_answers) := by
  refine fn_okG (k := 1) (A := []) (body := b_fits_answers) F sc_fits_answers rfl rfl rfl fun cdv Ar outer s H E hr => ?_
  unfold b_fits_answers
  have e : defBody s_fits_answers = [_, _, _] := rfl
  rw [e]
  refine sdss_cons ?_ ?_
  · exact sds_if (SdW.t (sdw_or (sdt_not (sdt_tru (sda_ex (sd_isLT rfl T.n_isinstance rfl T.n_list rfl T.n_tuple (sda_var 1) (fun _ => rfl))))) (sdw_or1 (sdt_cmp c_gt (sda_ex (sd_callB b_len rfl T.n_len (by decide +kernel) (.cons (sda_var 1) (fun _ => rfl) (.nil)))) (sda_ex (sd_cls (ClICa.cl rfl T.k_MOST_ANSWERS) rfl)))))) (sdss_one (sds_ret (sd_bl))) (sdss_nil)
  refine sdss_cons ?_ ?_
  · exact sds_if (sdt_not (sdt_tru (sda_ex (sd_callB b_all rfl T.n_all (by decide +kernel) (.cons (sda_ex (sd_lc (own := [("answer", 2)]) (blkOk_by (by exact rfl)) (sdi_seq (sd_var 1)) (fun _ _ _ _ _ => sdg_name 2 (by simp) rfl (by first | exact Or.inl rfl | exact Or.inr rfl) (by first | exact Or.inl rfl | exact Or.inr rfl)) .nil (fun _ _ _ _ _ => sd_frz (sd_call (Ca.df rfl C_is_number hr (by decide)) rfl (.cons (sda_var 2) (fun _ => rfl) (.nil)))))) (fun _ => rfl) (.nil)))))) (sdss_one (sds_ret (sd_bl))) (sdss_nil)
  refine sdss_one ?_
  exact sds_ret (sd_and (sd_cmp c_ni (sda_var 0) (sda_var 1)) (sd_one (sd_cmp c_eq (sda_ex (sd_lenSet rfl T.n_len rfl T.n_set (sda_var 1) (fun _ => rfl))) (sda_ex (sd_callB b_len rfl T.n_len (by decide +kernel) (.cons (sda_var 1) (fun _ => rfl) (.nil)))))))

theorem d_wrapped {f : Addr} {fd : FuncData} (F : Fun Γ.K "wrapped" "wrapped" s_wrapped f fd) (T : Tx Γ mg CB CC CM) : FnOk P w Γ.K mg base CX0 1 f fd ["lead", "items", "width"] (spG Γ 3 f_wrapped) := by
  refine fn_okG (k := 0) (A := [3]) (body := b_wrapped) F sc_wrapped rfl rfl rfl fun cdv Ar outer s H E hr => ?_
  unfold b_wrapped
  have e : defBody s_wrapped = [_, _] := rfl
  rw [e]
  refine sdss_cons ?_ ?_
  · exact (by first | exact sds_set 3 (by decide) rfl (by first | exact Or.inl rfl | exact Or.inr rfl) (sd_lc (own := [("at", 4)]) (blkOk_by (by exact rfl)) (sdi_range3 rfl T.n_range (sd_callB b_len rfl T.n_len (by decide +kernel) (.cons (sda_var 1) (fun _ => rfl) (.nil))) (fun _ => rfl) (sd_var 2) (fun _ => rfl)) (fun _ _ _ _ _ => sdg_name 4 (by simp) rfl (by first | exact Or.inl rfl | exact Or.inr rfl) (by first | exact Or.inl rfl | exact Or.inr rfl)) .nil (fun _ _ _ _ _ => sd_frz (sd_join (sd_str) (sda_ex (sd_slBoth (sda_var 1) (sd_var 4) (sd_add (sda_var 4) (sda_var 2)))) (fun _ => rfl)))) | exact sds_setLc 3 (by decide) rfl rfl (sw_true rfl rfl rfl (by decide +kernel)) (own := [("at", 4)]) (blkOk_by (by exact rfl)) (sdi_range3 rfl T.n_range (sd_callB b_len rfl T.n_len (by decide +kernel) (.cons (sda_var 1) (fun _ => rfl) (.nil))) (fun _ => rfl) (sd_var 2) (fun _ => rfl)) (fun _ _ _ _ _ => sdg_name 4 (by simp) rfl (by first | exact Or.inl rfl | exact Or.inr rfl) (by first | exact Or.inl rfl | exact Or.inr rfl)) .nil (fun _ _ _ _ _ => sd_frz (sd_join (sd_str) (sda_ex (sd_slBoth (sda_var 1) (sd_var 4) (sd_add (sda_var 4) (sda_var 2)))) (fun _ => rfl))))
  refine sdss_one ?_
  exact sds_ret (sd_lc (own := [("at", 4), ("part", 5)]) (blkOk_by (by exact rfl)) (sdi_enum rfl T.n_enumerate (sd_var 3) (fun _ => rfl)) (fun _ _ _ _ _ => sdg_tup (.cons (sdg_name 4 (by simp) rfl (by first | exact Or.inl rfl | exact Or.inr rfl) (by first | exact Or.inl rfl | exact Or.inr rfl)) rfl (.cons (sdg_name 5 (by simp) rfl (by first | exact Or.inl rfl | exact Or.inr rfl) (by first | exact Or.inl rfl | exact Or.inr rfl)) rfl (.nil))) rfl rfl) .nil (fun _ _ _ _ _ => sd_frz (sd_if (sdt_cmp c_eq (sda_var 4) (sda_ex (sd_int))) (sd_add (sda_var 0) (sda_var 5)) (sd_add (sda_ex (sd_str)) (sda_var 5)))))

theorem d_body_rows {f : Addr} {fd : FuncData} (F : Fun Γ.K "body_rows" "body_rows" s_body_rows f fd) (T : Tx Γ mg CB CC CM) : FnOk P w Γ.K mg base CX0 1 f fd ["words"] (spG Γ 1 f_body_rows) := by
  refine fn_okG (k := 0) (A := []) (body := b_body_rows) F sc_body_rows rfl rfl rfl fun cdv Ar outer s H E hr => ?_
  unfold b_body_rows
  have e : defBody s_body_rows = [_, _] := rfl
  rw [e]
  refine sdss_cons ?_ ?_
  · exact sds_if (sdt_not (sdt_tru (sda_var 0))) (sdss_one (sds_ret (sd_lst (.nil)))) (sdss_nil)
  refine sdss_one ?_
  exact sds_ret (sd_add (sda_ex (sd_lst (.cons (sda_ex (sd_str)) (fun _ => rfl) (.nil)))) (sda_ex (sd_lc (own := [("at", 1)]) (blkOk_by (by exact rfl)) (sdi_range3 rfl T.n_range (sd_callB b_len rfl T.n_len (by decide +kernel) (.cons (sda_var 0) (fun _ => rfl) (.nil))) (fun _ => rfl) (sd_gI rfl T.g_WORDS_IN_ROW) (fun _ => rfl)) (fun _ _ _ _ _ => sdg_name 1 (by simp) rfl (by first | exact Or.inl rfl | exact Or.inr rfl) (by first | exact Or.inl rfl | exact Or.inr rfl)) .nil (fun _ _ _ _ _ => sd_frz (sd_join (sd_str) (sda_ex (sd_slBoth (sda_var 0) (sd_var 1) (sd_add (sda_var 1) (sda_ex (sd_gI rfl T.g_WORDS_IN_ROW))))) (fun _ => rfl))))))
abbrev s_BL_init : Stmt := inClass (topS 15) 0
theorem sc_BL_init : SupS (defScope s_BL_init) "self" "field" := ⟨rfl, rfl, rfl, by decide +kernel, by decide +kernel, by decide +kernel, by decide +kernel, by decide +kernel, by decide +kernel, by decide +kernel⟩
theorem d_BL_init {f : Addr} {fd : FuncData} (D : SupK P Γ.K CB f fd "BadLetter.__init__" "self" "field" "field" (defBody s_BL_init) (defScope s_BL_init)) (hm : mg "super" = none) : FnOk P w Γ.K mg base CX0 1 f fd ["self", "field"] (spSup CB "field" okS) :=
  fn_super (k := 0) D sc_BL_init hm (fun X hN hs => pe_joined (.cons pe_str (.cons (pe_fmt (pe_var (i := 1) (by rw [hN]; rfl) (.inl (by rw [hs]; decide +kernel)))) (.cons pe_str .nil))))
    (fun a v H Q hv hQ => by
      obtain ⟨y, rfl, hl⟩ := hv
      have sz : sizeLine = 16777216 := by decide
      have e1 : (Str.empty ++ ("the field " : Str)).length = 10 := by decide
      have e2 : (" is wrong" : Str).length = 9 := by decide
      exact ⟨_, rfl, by decide, .str y, rfl, .inl ⟨y, rfl, by omega, y, rfl, by rw [Str.length_append, e1]; omega, _, rfl, by rw [Str.length_append, Str.length_append, e1, e2]; omega, hQ _⟩⟩)
    (fun env => ⟨_, rfl⟩)

end
end K

/-! the defs of the text, by gen00.py c -/
namespace K
open PySem L2 G
section
variable {Γ : Gam} {P : Program} {w : World} {mg : Str → Option Value} {base : Heap} {CB CC CM : Addr}
theorem d_LT_init {f : Addr} {fd : FuncData} (F : Fun Γ.K "__init__" "Letter.__init__" s_LT_init f fd) (T : Tx Γ mg CB CC CM) (C_is_number : Ca Γ P w mg base "is_number" 1 f_is_number 1) (C_is_name : Ca Γ P w mg base "is_name" 1 f_is_name 1) (C_fits_answers : Ca Γ P w mg base "fits_answers" 2 f_fits_answers 2) (C_are_names : Ca Γ P w mg base "are_names" 2 f_are_names 2) (C_wrapped : Ca Γ P w mg base "wrapped" 3 f_wrapped 1) (C_body_rows : Ca Γ P w mg base "body_rows" 1 f_body_rows 1) : FnOk P w Γ.K mg base CX0 3 f fd ["self", "number", "person", "house", "answers", "subject", "words"] (spG Γ 7 f_LT_init) := by
  refine fn_okG (k := 2) (A := [7]) (body := b_LT_init) F sc_LT_init rfl rfl rfl fun cdv Ar outer s H E hr => ?_
  unfold b_LT_init
  have e : defBody s_LT_init = [_, _, _, _, _, _, _, _, _, _, _, _, _, _, _, _, _] := rfl
  rw [e]
  refine sdss_cons ?_ ?_
  · exact sds_if (sdt_not (sdt_tru (sda_ex (sd_call (Ca.df rfl C_is_number hr (by decide)) rfl (.cons (sda_var 1) (fun _ => rfl) (.nil)))))) (sdss_one (sds_never)) (sdss_nil)
  refine sdss_cons ?_ ?_
  · exact sds_if (sdt_not (sdt_tru (sda_ex (sd_call (Ca.df rfl C_is_name hr (by decide)) rfl (.cons (sda_var 2) (fun _ => rfl) (.nil)))))) (sdss_one (sds_never)) (sdss_nil)
  refine sdss_cons ?_ ?_
  · exact sds_if (sdt_not (sdt_tru (sda_ex (sd_call (Ca.df rfl C_is_name hr (by decide)) rfl (.cons (sda_var 3) (fun _ => rfl) (.nil)))))) (sdss_one (sds_never)) (sdss_nil)
  refine sdss_cons ?_ ?_
  · exact sds_if (sdt_not (sdt_tru (sda_ex (sd_call (Ca.df rfl C_fits_answers hr (by decide)) rfl (.cons (sda_var 1) (fun _ => rfl) (.cons (sda_var 4) (fun _ => rfl) (.nil))))))) (sdss_one (sds_never)) (sdss_nil)
  refine sdss_cons ?_ ?_
  · exact sds_if (sdt_not (sdt_tru (sda_ex (sd_call (Ca.df rfl C_are_names hr (by decide)) rfl (.cons (sda_var 5) (fun _ => rfl) (.cons (sda_ex (sd_cls (ClICa.cl rfl T.k_MOST_SUBJECT) rfl)) (fun _ => rfl) (.nil))))))) (sdss_one (sds_never)) (sdss_nil)
  refine sdss_cons ?_ ?_
  · exact sds_if (sdt_not (sdt_tru (sda_ex (sd_call (Ca.df rfl C_are_names hr (by decide)) rfl (.cons (sda_var 6) (fun _ => rfl) (.cons (sda_ex (sd_cls (ClICa.cl rfl T.k_MOST_WORDS) rfl)) (fun _ => rfl) (.nil))))))) (sdss_one (sds_never)) (sdss_nil)
  refine sdss_cons ?_ ?_
  · exact sds_fld 0 T.f_number rfl (by first | exact Or.inl rfl | exact Or.inr (Or.inl rfl) | exact Or.inr (Or.inr rfl)) (sd_var 1)
  refine sdss_cons ?_ ?_
  · exact sds_fld 0 T.f_person rfl (by first | exact Or.inl rfl | exact Or.inr (Or.inl rfl) | exact Or.inr (Or.inr rfl)) (sd_var 2)
  refine sdss_cons ?_ ?_
  · exact sds_fld 0 T.f_house rfl (by first | exact Or.inl rfl | exact Or.inr (Or.inl rfl) | exact Or.inr (Or.inr rfl)) (sd_var 3)
  refine sdss_cons ?_ ?_
  · exact sds_fld 0 T.f_sender rfl (by first | exact Or.inl rfl | exact Or.inr (Or.inl rfl) | exact Or.inr (Or.inr rfl)) (sd_frz (sd_add (sda_ex (sd_add (sda_var 2) (sda_ex (sd_str)))) (sda_var 3)))
  refine sdss_cons ?_ ?_
  · exact sds_fld 0 T.f_answers rfl (by first | exact Or.inl rfl | exact Or.inr (Or.inl rfl) | exact Or.inr (Or.inr rfl)) (sd_frz (sd_callTy b_tuple rfl T.n_tuple (by decide +kernel) (.cons (sda_var 4) (fun _ => rfl) (.nil))))
  refine sdss_cons ?_ ?_
  · exact sds_fld 0 T.f_subject rfl (by first | exact Or.inl rfl | exact Or.inr (Or.inl rfl) | exact Or.inr (Or.inr rfl)) (sd_frz (sd_callTy b_tuple rfl T.n_tuple (by decide +kernel) (.cons (sda_var 5) (fun _ => rfl) (.nil))))
  refine sdss_cons ?_ ?_
  · exact sds_fld 0 T.f_words rfl (by first | exact Or.inl rfl | exact Or.inr (Or.inl rfl) | exact Or.inr (Or.inr rfl)) (sd_frz (sd_callTy b_tuple rfl T.n_tuple (by decide +kernel) (.cons (sda_var 6) (fun _ => rfl) (.nil))))
  refine sdss_cons ?_ ?_
  · exact sds_set 7 (by decide) rfl (by first | exact Or.inl rfl | exact Or.inr rfl) (sd_lst (.cons (sda_ex (sd_fs (.lit (.op (sda_var 1) (.nil))))) (fun _ => rfl) (.cons (sda_ex (sd_fs (.lit (.op (sda_ex (sd_q (sdq_fld 0 T.f_sender))) (.nil))))) (fun _ => rfl) (.nil))))
  refine sdss_cons ?_ ?_
  · exact sds_set 7 (by decide) rfl (by first | exact Or.inl rfl | exact Or.inr rfl) (sd_add (sda_var 7) (sda_ex (sd_call (Ca.df rfl C_wrapped hr (by decide)) rfl (.cons (sda_ex (sd_str)) (fun _ => rfl) (.cons (sda_ex (sd_lc (own := [("answer", 8)]) (blkOk_by (by exact rfl)) (sdi_seq (sd_var 4)) (fun _ _ _ _ _ => sdg_name 8 (by simp) rfl (by first | exact Or.inl rfl | exact Or.inr rfl) (by first | exact Or.inl rfl | exact Or.inr rfl)) .nil (fun _ _ _ _ _ => sd_frz (sd_callTy b_str rfl T.n_str (by decide +kernel) (.cons (sda_var 8) (fun _ => rfl) (.nil)))))) (fun _ => rfl) (.cons (sda_ex (sd_gI rfl T.g_ANSWERS_IN_ROW)) (fun _ => rfl) (.nil)))))))
  refine sdss_cons ?_ ?_
  · exact sds_set 7 (by decide) rfl (by first | exact Or.inl rfl | exact Or.inr rfl) (sd_add (sda_var 7) (sda_ex (sd_call (Ca.df rfl C_wrapped hr (by decide)) rfl (.cons (sda_ex (sd_str)) (fun _ => rfl) (.cons (sda_ex (sd_callTy b_list rfl T.n_list (by decide +kernel) (.cons (sda_var 5) (fun _ => rfl) (.nil)))) (fun _ => rfl) (.cons (sda_ex (sd_gI rfl T.g_SUBJECT_IN_ROW)) (fun _ => rfl) (.nil)))))))
  refine sdss_one ?_
  exact sds_fld 0 T.f_text rfl (by first | exact Or.inl rfl | exact Or.inr (Or.inl rfl) | exact Or.inr (Or.inr rfl)) (sd_frz (sd_join (sd_str) (sda_ex (sd_add (sda_var 7) (sda_ex (sd_call (Ca.df rfl C_body_rows hr (by decide)) rfl (.cons (sda_ex (sd_q (sdq_fld 0 T.f_words))) (fun _ => rfl) (.nil)))))) (fun _ => rfl)))
theorem dz_LT_init {f C : Addr} {ns : List Str} {fd : FuncData} (F : Fun Γ.K "__init__" "Letter.__init__" s_LT_init f fd) (T : Tx Γ mg CB CC CM) (hC : Γ.cls 0 = some (C, ns)) (B_bad : BdCa Γ P w mg base "BadLetter" CB "field" okS 1) (C_are_names : Ca Γ P w mg base "are_names" 2 f_are_names 2) (C_fits_answers : Ca Γ P w mg base "fits_answers" 2 f_fits_answers 2) (C_is_name : Ca Γ P w mg base "is_name" 1 f_is_name 1) (C_is_number : Ca Γ P w mg base "is_number" 1 f_is_number 1) : FnOk P w Γ.K mg base (L2.CX P w) 3 f fd ["self", "number", "person", "house", "answers", "subject", "words"] (spRz Γ 0 C CB "field" (zf_LT_init (Γ := Γ))) := by
  refine fn_rz (k := 2) (z := z_LT_init) F sc_LT_init rfl hC fun cdv Ar outer s H E hr tk => ?_
  unfold z_LT_init
  have e : defBody s_LT_init = [_, _, _, _, _, _, _, _, _, _, _, _, _, _, _, _, _] := rfl
  rw [e]
  exact sdz_if (sdt_not (sdt_tru (sda_ex (sd_call (Ca.df rfl C_is_number hr (by decide)) rfl (.cons (sda_var 1) (fun _ => rfl) (.nil)))))) (BdCa.b rfl B_bad hr (by decide)) tk rfl ⟨"number", rfl, by decide⟩
    (sdz_if (sdt_not (sdt_tru (sda_ex (sd_call (Ca.df rfl C_is_name hr (by decide)) rfl (.cons (sda_var 2) (fun _ => rfl) (.nil)))))) (BdCa.b rfl B_bad hr (by decide)) tk rfl ⟨"person", rfl, by decide⟩
    (sdz_if (sdt_not (sdt_tru (sda_ex (sd_call (Ca.df rfl C_is_name hr (by decide)) rfl (.cons (sda_var 3) (fun _ => rfl) (.nil)))))) (BdCa.b rfl B_bad hr (by decide)) tk rfl ⟨"house", rfl, by decide⟩
    (sdz_if (sdt_not (sdt_tru (sda_ex (sd_call (Ca.df rfl C_fits_answers hr (by decide)) rfl (.cons (sda_var 1) (fun _ => rfl) (.cons (sda_var 4) (fun _ => rfl) (.nil))))))) (BdCa.b rfl B_bad hr (by decide)) tk rfl ⟨"answers", rfl, by decide⟩
    (sdz_if (sdt_not (sdt_tru (sda_ex (sd_call (Ca.df rfl C_are_names hr (by decide)) rfl (.cons (sda_var 5) (fun _ => rfl) (.cons (sda_ex (sd_cls (ClICa.cl rfl T.k_MOST_SUBJECT) rfl)) (fun _ => rfl) (.nil))))))) (BdCa.b rfl B_bad hr (by decide)) tk rfl ⟨"subject", rfl, by decide⟩
    (sdz_if (sdt_not (sdt_tru (sda_ex (sd_call (Ca.df rfl C_are_names hr (by decide)) rfl (.cons (sda_var 6) (fun _ => rfl) (.cons (sda_ex (sd_cls (ClICa.cl rfl T.k_MOST_WORDS) rfl)) (fun _ => rfl) (.nil))))))) (BdCa.b rfl B_bad hr (by decide)) tk rfl ⟨"words", rfl, by decide⟩
    (sdz_none))))))

theorem d_LT_eq {f : Addr} {fd : FuncData} (F : Fun Γ.K "__eq__" "Letter.__eq__" s_LT_eq f fd) (T : Tx Γ mg CB CC CM) : FnOk P w Γ.K mg base CX0 1 f fd ["self", "other"] (spG Γ 2 f_LT_eq) := by
  refine fn_okG (k := 0) (A := []) (body := b_LT_eq) F sc_LT_eq rfl rfl rfl fun cdv Ar outer s H E hr => ?_
  unfold b_LT_eq
  have e : defBody s_LT_eq = [_] := rfl
  rw [e]
  refine sdss_one ?_
  exact sds_ret (sd_and (sd_isN (INCa.is rfl T.isN) rfl T.n_isinstance rfl (sda_var 1) (fun _ => rfl)) (sd_and (sd_cmp c_eq (sda_ex (sd_q (sdq_fld 0 T.f_number))) (sda_ex (sd_q (sdq_fld 1 T.f_number)))) (sd_and (sd_cmp c_eq (sda_ex (sd_q (sdq_fld 0 T.f_person))) (sda_ex (sd_q (sdq_fld 1 T.f_person)))) (sd_and (sd_cmp c_eq (sda_ex (sd_q (sdq_fld 0 T.f_house))) (sda_ex (sd_q (sdq_fld 1 T.f_house)))) (sd_and (sd_cmp c_eq (sda_ex (sd_q (sdq_fld 0 T.f_answers))) (sda_ex (sd_q (sdq_fld 1 T.f_answers)))) (sd_and (sd_cmp c_eq (sda_ex (sd_q (sdq_fld 0 T.f_subject))) (sda_ex (sd_q (sdq_fld 1 T.f_subject)))) (sd_one (sd_cmp c_eq (sda_ex (sd_q (sdq_fld 0 T.f_words))) (sda_ex (sd_q (sdq_fld 1 T.f_words)))))))))))

end
end K

/-! the defs of the text, by gen00.py d -/
namespace K
open PySem L2 G
section
variable {Γ : Gam} {P : Program} {w : World} {mg : Str → Option Value} {base : Heap} {CB CC CM : Addr}
theorem d_law_bag {f : Addr} {fd : FuncData} (F : Fun Γ.K "_law_bag" "_law_bag" s_law_bag f fd) (T : Tx Γ mg CB CC CM) : FnOk P w Γ.K mg base CX0 1 f fd ["_law_script", "_law_at"] (spG Γ 2 f_law_bag) := by
  refine fn_okG (k := 0) (A := [2, 3, 4, 5]) (body := b_law_bag) F sc_law_bag rfl rfl rfl fun cdv Ar outer s H E hr => ?_
  unfold b_law_bag
  have e : defBody s_law_bag = [_, _, _, _] := rfl
  rw [e]
  refine sdss_cons ?_ ?_
  · exact sds_set 2 (by decide) rfl (by first | exact Or.inl rfl | exact Or.inr rfl) (sd_if (sdt_cmp c_lt (sda_var 1) (sda_ex (sd_callB b_len rfl T.n_len (by decide +kernel) (.cons (sda_var 0) (fun _ => rfl) (.nil))))) (sd_ix (sda_var 0) (sda_var 1)) (sd_int))
  refine sdss_cons ?_ ?_
  · exact sds_set 3 (by decide) rfl (by first | exact Or.inl rfl | exact Or.inr rfl) (sd_add (sda_ex (sd_mul (sda_ex (sd_int)) (sda_var 1))) (sda_ex (sd_int)))
  refine sdss_cons ?_ ?_
  · exact sds_for PassesOwn.never (sdi_enum rfl T.n_enumerate (sd_frz (sd_slHi (sda_var 0) (sda_ex (sd_int)))) (fun _ => rfl)) (sdg_tup (.cons (sdg_name 4 (by decide) rfl (by first | exact Or.inl rfl | exact Or.inr rfl) (by first | exact Or.inl rfl | exact Or.inr rfl)) rfl (.cons (sdg_name 5 (by decide) rfl (by first | exact Or.inl rfl | exact Or.inr rfl) (by first | exact Or.inl rfl | exact Or.inr rfl)) rfl (.nil))) rfl rfl)
        (sdss_one (sds_set 3 (by decide) rfl (by first | exact Or.inl rfl | exact Or.inr rfl) (sd_mod (sda_ex (sd_callTy b_int rfl T.n_int (by decide +kernel) (.cons (sda_ex (sd_add (sda_ex (sd_add (sda_ex (sd_add (sda_ex (sd_mul (sda_var 3) (sda_ex (sd_int)))) (sda_ex (sd_mod (sda_ex (sd_callTy b_int rfl T.n_int (by decide +kernel) (.cons (sda_var 5) (fun _ => rfl) (.nil)))) (sda_ex (sd_int)))))) (sda_ex (sd_mul (sda_ex (sd_int)) (sda_var 4))))) (sda_ex (sd_int)))) (fun _ => rfl) (.nil)))) (sda_ex (sd_int)))))
  refine sdss_one ?_
  exact sds_ret (sd_lst (.cons (sda_ex (sd_frz (sd_if (sdt_cmp c_ge (sda_ex (sd_callB b_abs rfl T.n_abs (by decide +kernel) (.cons (sda_var 2) (fun _ => rfl) (.nil)))) (sda_ex (sd_pow (sda_ex (sd_int)) (sda_ex (sd_int))))) (sd_callB b_abs rfl T.n_abs (by decide +kernel) (.cons (sda_var 2) (fun _ => rfl) (.nil))) (sd_int)))) (fun _ => rfl) (.cons (sda_ex (sd_var 3)) (fun _ => rfl) (.nil))))

theorem d_law_take {f : Addr} {fd : FuncData} (F : Fun Γ.K "_law_take" "_law_take" s_law_take f fd) (T : Tx Γ mg CB CC CM) : FnOk P w Γ.K mg base CX0 1 f fd ["_law_bag_here", "_law_many"] (spG Γ 2 f_law_take) := by
  refine fn_okG (k := 0) (A := [2]) (body := b_law_take) F sc_law_take rfl rfl rfl fun cdv Ar outer s H E hr => ?_
  unfold b_law_take
  have e : defBody s_law_take = [_, _, _] := rfl
  rw [e]
  refine sdss_cons ?_ ?_
  · exact sds_if (sdt_cmp c_gt (sda_ex (sd_ix (sda_var 0) (sda_ex (sd_int)))) (sda_ex (sd_int))) (sdss_cons (sds_set 2 (by decide) rfl (by first | exact Or.inl rfl | exact Or.inr rfl) (sd_mod (sda_ex (sd_callTy b_int rfl T.n_int (by decide +kernel) (.cons (sda_ex (sd_ix (sda_var 0) (sda_ex (sd_int)))) (fun _ => rfl) (.nil)))) (sda_var 1)))
        (sdss_cons (sds_setIx 0 rfl (by first | exact Or.inl rfl | exact Or.inr (Or.inl rfl) | exact Or.inr (Or.inr rfl)) (sd_div (sda_ex (sd_ix (sda_var 0) (sda_ex (sd_int)))) (sda_var 1)) (sd_int))
        (sdss_one (sds_retMv 2)))) (sdss_nil)
  refine sdss_cons ?_ ?_
  · exact sds_setIx 0 rfl (by first | exact Or.inl rfl | exact Or.inr (Or.inl rfl) | exact Or.inr (Or.inr rfl)) (sd_mod (sda_ex (sd_callTy b_int rfl T.n_int (by decide +kernel) (.cons (sda_ex (sd_add (sda_ex (sd_mul (sda_ex (sd_ix (sda_var 0) (sda_ex (sd_int)))) (sda_ex (sd_int)))) (sda_ex (sd_int)))) (fun _ => rfl) (.nil)))) (sda_ex (sd_int))) (sd_int)
  refine sdss_one ?_
  exact sds_ret (sd_mod (sda_ex (sd_div (sda_ex (sd_mod (sda_ex (sd_callTy b_int rfl T.n_int (by decide +kernel) (.cons (sda_ex (sd_mul (sda_ex (sd_div (sda_ex (sd_ix (sda_var 0) (sda_ex (sd_int)))) (sda_ex (sd_int)))) (sda_ex (sd_int)))) (fun _ => rfl) (.nil)))) (sda_ex (sd_int)))) (sda_ex (sd_int)))) (sda_var 1))

theorem d_law_name {f : Addr} {fd : FuncData} (F : Fun Γ.K "_law_name" "_law_name" s_law_name f fd) (T : Tx Γ mg CB CC CM) (C_law_take : Ca Γ P w mg base "_law_take" 2 f_law_take 1) : FnOk P w Γ.K mg base CX0 2 f fd ["_law_bag_here"] (spG Γ 1 f_law_name) := by
  refine fn_okG (k := 1) (A := [1]) (body := b_law_name) F sc_law_name rfl rfl rfl fun cdv Ar outer s H E hr => ?_
  unfold b_law_name
  have e : defBody s_law_name = [_, _] := rfl
  rw [e]
  refine sdss_cons ?_ ?_
  · exact sds_set 1 (by decide) rfl (by first | exact Or.inl rfl | exact Or.inr rfl) (sd_add (sda_ex (sd_int)) (sda_ex (sd_call (Ca.df rfl C_law_take hr (by decide)) rfl (.cons (sda_var 0) (fun _ => rfl) (.cons (sda_ex (sd_int)) (fun _ => rfl) (.nil))))))
  refine sdss_one ?_
  exact sds_ret (sd_join (sd_str) (sda_ex (sd_lc (own := [("_law_k", 2)]) (blkOk_by (by exact rfl)) (sdi_range rfl T.n_range (sd_var 1) (fun _ => rfl)) (fun _ _ _ _ _ => sdg_name 2 (by simp) rfl (by first | exact Or.inl rfl | exact Or.inr rfl) (by first | exact Or.inl rfl | exact Or.inr rfl)) .nil (fun _ _ _ _ _ => sd_ix (sda_ex (sd_str)) (sda_ex (sd_call (Ca.df rfl C_law_take hr (by decide)) rfl (.cons (sda_var 0) (fun _ => rfl) (.cons (sda_ex (sd_int)) (fun _ => rfl) (.nil)))))))) (fun _ => rfl))

theorem d_law_names {f : Addr} {fd : FuncData} (F : Fun Γ.K "_law_names" "_law_names" s_law_names f fd) (T : Tx Γ mg CB CC CM) (C_law_take : Ca Γ P w mg base "_law_take" 2 f_law_take 1) (C_law_name : Ca Γ P w mg base "_law_name" 1 f_law_name 2) : FnOk P w Γ.K mg base CX0 3 f fd ["_law_bag_here", "_law_most"] (spG Γ 2 f_law_names) := by
  refine fn_okG (k := 2) (A := [2]) (body := b_law_names) F sc_law_names rfl rfl rfl fun cdv Ar outer s H E hr => ?_
  unfold b_law_names
  have e : defBody s_law_names = [_, _, _] := rfl
  rw [e]
  refine sdss_cons ?_ ?_
  · exact (by first | exact sds_set 2 (by decide) rfl (by first | exact Or.inl rfl | exact Or.inr rfl) (sd_lc (own := [("_law_k", 3)]) (blkOk_by (by exact rfl)) (sdi_range rfl T.n_range (sd_call (Ca.df rfl C_law_take hr (by decide)) rfl (.cons (sda_var 0) (fun _ => rfl) (.cons (sda_ex (sd_add (sda_var 1) (sda_ex (sd_int)))) (fun _ => rfl) (.nil)))) (fun _ => rfl)) (fun _ _ _ _ _ => sdg_name 3 (by simp) rfl (by first | exact Or.inl rfl | exact Or.inr rfl) (by first | exact Or.inl rfl | exact Or.inr rfl)) .nil (fun _ _ _ _ _ => sd_frz (sd_call (Ca.df rfl C_law_name hr (by decide)) rfl (.cons (sda_var 0) (fun _ => rfl) (.nil))))) | exact sds_setLc 2 (by decide) rfl rfl (sw_true rfl rfl rfl (by decide +kernel)) (own := [("_law_k", 3)]) (blkOk_by (by exact rfl)) (sdi_range rfl T.n_range (sd_call (Ca.df rfl C_law_take hr (by decide)) rfl (.cons (sda_var 0) (fun _ => rfl) (.cons (sda_ex (sd_add (sda_var 1) (sda_ex (sd_int)))) (fun _ => rfl) (.nil)))) (fun _ => rfl)) (fun _ _ _ _ _ => sdg_name 3 (by simp) rfl (by first | exact Or.inl rfl | exact Or.inr rfl) (by first | exact Or.inl rfl | exact Or.inr rfl)) .nil (fun _ _ _ _ _ => sd_frz (sd_call (Ca.df rfl C_law_name hr (by decide)) rfl (.cons (sda_var 0) (fun _ => rfl) (.nil)))))
  refine sdss_cons ?_ ?_
  · exact sds_if (SdW.t (sdw_and (sdt_cmp c_gt (sda_ex (sd_callB b_len rfl T.n_len (by decide +kernel) (.cons (sda_var 2) (fun _ => rfl) (.nil)))) (sda_ex (sd_int))) (sdw_and1 (sdt_cmp c_eq (sda_ex (sd_call (Ca.df rfl C_law_take hr (by decide)) rfl (.cons (sda_var 0) (fun _ => rfl) (.cons (sda_ex (sd_int)) (fun _ => rfl) (.nil))))) (sda_ex (sd_int)))))) (sdss_one (sds_setIx 2 rfl (by first | exact Or.inl rfl | exact Or.inr (Or.inl rfl) | exact Or.inr (Or.inr rfl)) (sd_ix (sda_var 2) (sda_ex (sd_neg (sda_ex (sd_int))))) (sd_int))) (sdss_nil)
  refine sdss_one ?_
  exact sds_retMv 2

theorem d_law_number {f : Addr} {fd : FuncData} (F : Fun Γ.K "_law_number" "_law_number" s_law_number f fd) (T : Tx Γ mg CB CC CM) (C_law_take : Ca Γ P w mg base "_law_take" 2 f_law_take 1) : FnOk P w Γ.K mg base CX0 2 f fd ["_law_bag_here"] (spG Γ 1 f_law_number) := by
  refine fn_okG (k := 1) (A := []) (body := b_law_number) F sc_law_number rfl rfl rfl fun cdv Ar outer s H E hr => ?_
  unfold b_law_number
  have e : defBody s_law_number = [_] := rfl
  rw [e]
  refine sdss_one ?_
  exact sds_ret (sd_ix (sda_ex (sd_lst (.cons (sda_ex (sd_int)) (fun _ => rfl) (.cons (sda_ex (sd_pow (sda_ex (sd_int)) (sda_ex (sd_int)))) (fun _ => rfl) (.cons (sda_ex (sd_frz (sd_add (sda_ex (sd_int)) (sda_ex (sd_call (Ca.df rfl C_law_take hr (by decide)) rfl (.cons (sda_var 0) (fun _ => rfl) (.cons (sda_ex (sd_int)) (fun _ => rfl) (.nil)))))))) (fun _ => rfl) (.cons (sda_ex (sd_frz (sd_add (sda_ex (sd_int)) (sda_ex (sd_call (Ca.df rfl C_law_take hr (by decide)) rfl (.cons (sda_var 0) (fun _ => rfl) (.cons (sda_ex (sd_pow (sda_ex (sd_int)) (sda_ex (sd_int)))) (fun _ => rfl) (.nil)))))))) (fun _ => rfl) (.nil))))))) (sda_ex (sd_call (Ca.df rfl C_law_take hr (by decide)) rfl (.cons (sda_var 0) (fun _ => rfl) (.cons (sda_ex (sd_int)) (fun _ => rfl) (.nil))))))

theorem d_law_answers {f : Addr} {fd : FuncData} (F : Fun Γ.K "_law_answers" "_law_answers" s_law_answers f fd) (T : Tx Γ mg CB CC CM) (C_law_take : Ca Γ P w mg base "_law_take" 2 f_law_take 1) : FnOk P w Γ.K mg base CX0 2 f fd ["_law_bag_here", "_law_number_here"] (spG Γ 2 f_law_answers) := by
  refine fn_okG (k := 1) (A := [2, 3, 4]) (body := b_law_answers) F sc_law_answers rfl rfl rfl fun cdv Ar outer s H E hr => ?_
  unfold b_law_answers
  have e : defBody s_law_answers = [_, _, _] := rfl
  rw [e]
  refine sdss_cons ?_ ?_
  · exact (by first | exact sds_par (i := 2) (j := 3) (by decide) (by decide) rfl rfl (by decide) rfl rfl (sd_lst (.nil)) (fun _ => rfl) (sd_var 1) (fun _ => rfl) rfl)
  refine sdss_cons ?_ ?_
  · exact sds_for PassesOwn.never (sdi_range rfl T.n_range (sd_ix (sda_ex (sd_lst (.cons (sda_ex (sd_int)) (fun _ => rfl) (.cons (sda_ex (sd_int)) (fun _ => rfl) (.cons (sda_ex (sd_int)) (fun _ => rfl) (.cons (sda_ex (sd_int)) (fun _ => rfl) (.cons (sda_ex (sd_frz (sd_call (Ca.df rfl C_law_take hr (by decide)) rfl (.cons (sda_var 0) (fun _ => rfl) (.cons (sda_ex (sd_int)) (fun _ => rfl) (.nil)))))) (fun _ => rfl) (.nil)))))))) (sda_ex (sd_call (Ca.df rfl C_law_take hr (by decide)) rfl (.cons (sda_var 0) (fun _ => rfl) (.cons (sda_ex (sd_int)) (fun _ => rfl) (.nil)))))) (fun _ => rfl)) (sdg_name 4 (by decide) rfl (by first | exact Or.inl rfl | exact Or.inr rfl) (by first | exact Or.inl rfl | exact Or.inr rfl))
        (sdss_cons (sds_set 3 (by decide) rfl (by first | exact Or.inl rfl | exact Or.inr rfl) (sd_add (sda_ex (sd_mod (sda_ex (sd_callTy b_int rfl T.n_int (by decide +kernel) (.cons (sda_ex (sd_add (sda_var 3) (sda_ex (sd_call (Ca.df rfl C_law_take hr (by decide)) rfl (.cons (sda_var 0) (fun _ => rfl) (.cons (sda_ex (sd_int)) (fun _ => rfl) (.nil))))))) (fun _ => rfl) (.nil)))) (sda_ex (sd_pow (sda_ex (sd_int)) (sda_ex (sd_int)))))) (sda_ex (sd_int))))
        (sdss_one (sds_if (SdW.t (sdw_and (sdt_cmp c_ni (sda_var 3) (sda_var 2)) (sdw_and1 (sdt_cmp c_ne (sda_var 3) (sda_var 1))))) (sdss_one (sds_expr (sd_mut 2 PySem.F.slot_list_append PySem.F.type_list_append mt_append uAppend_ok rfl (by first | exact Or.inl rfl | exact Or.inr (Or.inl rfl) | exact Or.inr (Or.inr rfl)) (.cons (sda_ex (sd_var 3)) (fun _ => rfl) (.nil))))) (sdss_nil))))
  refine sdss_one ?_
  exact sds_retMv 2

theorem d_law_fields {f : Addr} {fd : FuncData} (F : Fun Γ.K "_law_fields" "_law_fields" s_law_fields f fd) (T : Tx Γ mg CB CC CM) (C_law_number : Ca Γ P w mg base "_law_number" 1 f_law_number 2) (C_law_take : Ca Γ P w mg base "_law_take" 2 f_law_take 1) (C_law_name : Ca Γ P w mg base "_law_name" 1 f_law_name 2) (C_law_answers : Ca Γ P w mg base "_law_answers" 2 f_law_answers 2) (C_law_names : Ca Γ P w mg base "_law_names" 2 f_law_names 3) : FnOk P w Γ.K mg base CX0 4 f fd ["_law_bag_here"] (spG Γ 1 f_law_fields) := by
  refine fn_okG (k := 3) (A := [1, 2, 3]) (body := b_law_fields) F sc_law_fields rfl rfl rfl fun cdv Ar outer s H E hr => ?_
  unfold b_law_fields
  have e : defBody s_law_fields = [_, _, _, _] := rfl
  rw [e]
  refine sdss_cons ?_ ?_
  · exact sds_set 1 (by decide) rfl (by first | exact Or.inl rfl | exact Or.inr rfl) (sd_call (Ca.df rfl C_law_number hr (by decide)) rfl (.cons (sda_var 0) (fun _ => rfl) (.nil)))
  refine sdss_cons ?_ ?_
  · exact sds_set 2 (by decide) rfl (by first | exact Or.inl rfl | exact Or.inr rfl) (sd_ix (sda_ex (sd_lst (.cons (sda_ex (sd_int)) (fun _ => rfl) (.cons (sda_ex (sd_int)) (fun _ => rfl) (.cons (sda_ex (sd_int)) (fun _ => rfl) (.cons (sda_ex (sd_int)) (fun _ => rfl) (.cons (sda_ex (sd_frz (sd_call (Ca.df rfl C_law_take hr (by decide)) rfl (.cons (sda_var 0) (fun _ => rfl) (.cons (sda_ex (sd_int)) (fun _ => rfl) (.nil)))))) (fun _ => rfl) (.nil)))))))) (sda_ex (sd_call (Ca.df rfl C_law_take hr (by decide)) rfl (.cons (sda_var 0) (fun _ => rfl) (.cons (sda_ex (sd_int)) (fun _ => rfl) (.nil))))))
  refine sdss_cons ?_ ?_
  · exact (by first | exact sds_set 3 (by decide) rfl (by first | exact Or.inl rfl | exact Or.inr rfl) (sd_lc (own := [("_law_k", 4)]) (blkOk_by (by exact rfl)) (sdi_range rfl T.n_range (sd_var 2) (fun _ => rfl)) (fun _ _ _ _ _ => sdg_name 4 (by simp) rfl (by first | exact Or.inl rfl | exact Or.inr rfl) (by first | exact Or.inl rfl | exact Or.inr rfl)) .nil (fun _ _ _ _ _ => sd_frz (sd_call (Ca.df rfl C_law_name hr (by decide)) rfl (.cons (sda_var 0) (fun _ => rfl) (.nil))))) | exact sds_setLc 3 (by decide) rfl rfl (sw_true rfl rfl rfl (by decide +kernel)) (own := [("_law_k", 4)]) (blkOk_by (by exact rfl)) (sdi_range rfl T.n_range (sd_var 2) (fun _ => rfl)) (fun _ _ _ _ _ => sdg_name 4 (by simp) rfl (by first | exact Or.inl rfl | exact Or.inr rfl) (by first | exact Or.inl rfl | exact Or.inr rfl)) .nil (fun _ _ _ _ _ => sd_frz (sd_call (Ca.df rfl C_law_name hr (by decide)) rfl (.cons (sda_var 0) (fun _ => rfl) (.nil)))))
  refine sdss_one ?_
  exact sds_ret (sd_lst (.cons (sda_ex (sd_var 1)) (fun _ => rfl) (.cons (sda_ex (sd_frz (sd_call (Ca.df rfl C_law_name hr (by decide)) rfl (.cons (sda_var 0) (fun _ => rfl) (.nil))))) (fun _ => rfl) (.cons (sda_ex (sd_frz (sd_call (Ca.df rfl C_law_name hr (by decide)) rfl (.cons (sda_var 0) (fun _ => rfl) (.nil))))) (fun _ => rfl) (.cons (sda_ex (sd_frz (sd_call (Ca.df rfl C_law_answers hr (by decide)) rfl (.cons (sda_var 0) (fun _ => rfl) (.cons (sda_var 1) (fun _ => rfl) (.nil)))))) (fun _ => rfl) (.cons (sda_ex (sd_frz (sd_call (Ca.df rfl C_law_names hr (by decide)) rfl (.cons (sda_var 0) (fun _ => rfl) (.cons (sda_ex (sd_int)) (fun _ => rfl) (.nil)))))) (fun _ => rfl) (.cons (sda_ex (sd_var 3)) (fun _ => rfl) (.nil))))))))

theorem d_law_letter {f : Addr} {fd : FuncData} (F : Fun Γ.K "_law_letter" "_law_letter" s_law_letter f fd) (T : Tx Γ mg CB CC CM) (V3 : MkCa Γ P w mg base 0 "Letter" 7 f_LT_init ["answers", "subject", "words"] 4 [] 3) : FnOk P w Γ.K mg base CX0 5 f fd ["_law_fields_here"] (spG Γ 1 f_law_letter) := by
  refine fn_okG (k := 4) (A := []) (body := b_law_letter) F sc_law_letter rfl rfl rfl fun cdv Ar outer s H E hr => ?_
  unfold b_law_letter
  have e : defBody s_law_letter = [_] := rfl
  rw [e]
  refine sdss_one ?_
  exact sds_ret (sd_makeK (MkCa.kw rfl V3 hr (by decide)) rfl (.cons (sda_ex (sd_ix (sda_var 0) (sda_ex (sd_int)))) (fun _ => rfl) (.cons (sda_ex (sd_ix (sda_var 0) (sda_ex (sd_int)))) (fun _ => rfl) (.cons (sda_ex (sd_ix (sda_var 0) (sda_ex (sd_int)))) (fun _ => rfl) (.cons (sda_ex (sd_callTy b_list rfl T.n_list (by decide +kernel) (.cons (sda_ex (sd_ix (sda_var 0) (sda_ex (sd_int)))) (fun _ => rfl) (.nil)))) (fun _ => rfl) (.cons (sda_ex (sd_callTy b_list rfl T.n_list (by decide +kernel) (.cons (sda_ex (sd_ix (sda_var 0) (sda_ex (sd_int)))) (fun _ => rfl) (.nil)))) (fun _ => rfl) (.cons (sda_ex (sd_callTy b_list rfl T.n_list (by decide +kernel) (.cons (sda_ex (sd_ix (sda_var 0) (sda_ex (sd_int)))) (fun _ => rfl) (.nil)))) (fun _ => rfl) (.nil))))))) rfl rfl)

end
end K

/-! the defs of the text, by gen00.py e -/
namespace K
open PySem L2 G
section
variable {Γ : Gam} {P : Program} {w : World} {mg : Str → Option Value} {base : Heap} {CB CC CM : Addr}
theorem d_law_bad {f : Addr} {fd : FuncData} (F : Fun Γ.K "_law_bad" "_law_bad" s_law_bad f fd) (T : Tx Γ mg CB CC CM) (C_law_take : Ca Γ P w mg base "_law_take" 2 f_law_take 1) : FnOk P w Γ.K mg base CX0 2 f fd ["_law_bag_here", "_law_field", "_law_fields_here"] (spG Γ 3 f_law_bad) := by
  refine fn_okG (k := 1) (A := [3, 4, 6]) (body := b_law_bad) F sc_law_bad rfl rfl rfl fun cdv Ar outer s H E hr => ?_
  unfold b_law_bad
  have e : defBody s_law_bad = [_, _, _, _, _, _] := rfl
  rw [e]
  refine sdss_cons ?_ ?_
  · exact sds_set 3 (by decide) rfl (by first | exact Or.inl rfl | exact Or.inr rfl) (sd_str)
  refine sdss_cons ?_ ?_
  · exact sds_if (sdt_cmp c_eq (sda_var 1) (sda_ex (sd_int))) (sdss_one (sds_ret (sd_ix (sda_ex (sd_lst (.cons (sda_ex (sd_int)) (fun _ => rfl) (.cons (sda_ex (sd_frz (sd_add (sda_ex (sd_pow (sda_ex (sd_int)) (sda_ex (sd_int)))) (sda_ex (sd_int))))) (fun _ => rfl) (.cons (sda_ex (sd_sub (sda_ex (sd_neg (sda_ex (sd_int)))) (sda_ex (sd_call (Ca.df rfl C_law_take hr (by decide)) rfl (.cons (sda_var 0) (fun _ => rfl) (.cons (sda_ex (sd_int)) (fun _ => rfl) (.nil))))))) (fun _ => rfl) (.cons (sda_ex (sd_bl)) (fun _ => rfl) (.cons (sda_ex (sd_str)) (fun _ => rfl) (.cons (sda_ex (sd_non)) (fun _ => rfl) (.nil))))))))) (sda_ex (sd_call (Ca.df rfl C_law_take hr (by decide)) rfl (.cons (sda_var 0) (fun _ => rfl) (.cons (sda_ex (sd_int)) (fun _ => rfl) (.nil)))))))) (sdss_nil)
  refine sdss_cons ?_ ?_
  · exact sds_if (sdt_cmp c_lt (sda_var 1) (sda_ex (sd_int))) (sdss_one (sds_ret (sd_ix (sda_ex (sd_lst (.cons (sda_ex (sd_str)) (fun _ => rfl) (.cons (sda_ex (sd_var 3)) (fun _ => rfl) (.cons (sda_ex (sd_str)) (fun _ => rfl) (.cons (sda_ex (sd_str)) (fun _ => rfl) (.cons (sda_ex (sd_str)) (fun _ => rfl) (.cons (sda_ex (sd_non)) (fun _ => rfl) (.cons (sda_ex (sd_int)) (fun _ => rfl) (.cons (sda_ex (sd_frz (sd_lst (.cons (sda_ex (sd_str)) (fun _ => rfl) (.nil))))) (fun _ => rfl) (.nil))))))))))) (sda_ex (sd_call (Ca.df rfl C_law_take hr (by decide)) rfl (.cons (sda_var 0) (fun _ => rfl) (.cons (sda_ex (sd_int)) (fun _ => rfl) (.nil)))))))) (sdss_nil)
  refine sdss_cons ?_ ?_
  · exact sds_if (sdt_cmp c_eq (sda_var 1) (sda_ex (sd_int))) (sdss_cons (sds_set 4 (by decide) rfl (by first | exact Or.inl rfl | exact Or.inr rfl) (sd_if (sdt_tru (sda_ex (sd_isi (T := "int") (by unfold fiveTy; simp) rfl T.n_isinstance rfl T.n_int (by decide +kernel) (sda_ex (sd_ix (sda_var 2) (sda_ex (sd_int)))) (fun _ => rfl)))) (sd_ix (sda_var 2) (sda_ex (sd_int))) (sd_int)))
        (sdss_one (sds_ret (sd_ix (sda_ex (sd_lst (.cons (sda_ex (sd_frz (sd_lst (.cons (sda_ex (sd_var 4)) (fun _ => rfl) (.nil))))) (fun _ => rfl) (.cons (sda_ex (sd_frz (sd_lst (.cons (sda_ex (sd_int)) (fun _ => rfl) (.cons (sda_ex (sd_int)) (fun _ => rfl) (.nil)))))) (fun _ => rfl) (.cons (sda_ex (sd_frz (sd_lst (.cons (sda_ex (sd_int)) (fun _ => rfl) (.cons (sda_ex (sd_int)) (fun _ => rfl) (.cons (sda_ex (sd_int)) (fun _ => rfl) (.nil))))))) (fun _ => rfl) (.cons (sda_ex (sd_frz (sd_lst (.cons (sda_ex (sd_int)) (fun _ => rfl) (.nil))))) (fun _ => rfl) (.cons (sda_ex (sd_frz (sd_lst (.cons (sda_ex (sd_bl)) (fun _ => rfl) (.nil))))) (fun _ => rfl) (.cons (sda_ex (sd_frz (sd_lst (.cons (sda_ex (sd_frz (sd_add (sda_ex (sd_pow (sda_ex (sd_int)) (sda_ex (sd_int)))) (sda_ex (sd_int))))) (fun _ => rfl) (.nil))))) (fun _ => rfl) (.cons (sda_ex (sd_frz (sd_lst (.cons (sda_ex (sd_str)) (fun _ => rfl) (.nil))))) (fun _ => rfl) (.cons (sda_ex (sd_str)) (fun _ => rfl) (.cons (sda_ex (sd_non)) (fun _ => rfl) (.cons (sda_ex (sd_odd0)) (fun _ => rfl) (.cons (sda_ex (sd_int)) (fun _ => rfl) (.cons (sda_ex (sd_frz (sd_lc (own := [("_law_k", 5)]) (blkOk_by (by exact rfl)) (sdi_range rfl T.n_range (sd_int) (fun _ => rfl)) (fun _ _ _ _ _ => sdg_name 5 (by simp) rfl (by first | exact Or.inl rfl | exact Or.inr rfl) (by first | exact Or.inl rfl | exact Or.inr rfl)) .nil (fun _ _ _ _ _ => sd_frz (sd_add (sda_ex (sd_mul (sda_ex (sd_int)) (sda_ex (sd_pow (sda_ex (sd_int)) (sda_ex (sd_int)))))) (sda_var 5)))))) (fun _ => rfl) (.nil))))))))))))))) (sda_ex (sd_call (Ca.df rfl C_law_take hr (by decide)) rfl (.cons (sda_var 0) (fun _ => rfl) (.cons (sda_ex (sd_int)) (fun _ => rfl) (.nil))))))))) (sdss_nil)
  refine sdss_cons ?_ ?_
  · exact sds_set 6 (by decide) rfl (by first | exact Or.inl rfl | exact Or.inr rfl) (sd_ix (sda_ex (sd_lst (.cons (sda_ex (sd_int)) (fun _ => rfl) (.cons (sda_ex (sd_int)) (fun _ => rfl) (.nil))))) (sda_ex (sd_sub (sda_var 1) (sda_ex (sd_int)))))
  refine sdss_one ?_
  exact sds_ret (sd_ix (sda_ex (sd_lst (.cons (sda_ex (sd_frz (sd_rep (sda_ex (sd_lst (.cons (sda_ex (sd_str)) (fun _ => rfl) (.nil)))) (sda_ex (sd_add (sda_var 6) (sda_ex (sd_int))))))) (fun _ => rfl) (.cons (sda_ex (sd_frz (sd_lst (.cons (sda_ex (sd_str)) (fun _ => rfl) (.nil))))) (fun _ => rfl) (.cons (sda_ex (sd_frz (sd_lst (.cons (sda_ex (sd_str)) (fun _ => rfl) (.cons (sda_ex (sd_str)) (fun _ => rfl) (.nil)))))) (fun _ => rfl) (.cons (sda_ex (sd_frz (sd_lst (.cons (sda_ex (sd_str)) (fun _ => rfl) (.cons (sda_ex (sd_int)) (fun _ => rfl) (.nil)))))) (fun _ => rfl) (.cons (sda_ex (sd_str)) (fun _ => rfl) (.cons (sda_ex (sd_non)) (fun _ => rfl) (.cons (sda_ex (sd_frz (sd_lst (.cons (sda_ex (sd_var 3)) (fun _ => rfl) (.nil))))) (fun _ => rfl) (.cons (sda_ex (sd_odd1)) (fun _ => rfl) (.cons (sda_ex (sd_int)) (fun _ => rfl) (.nil)))))))))))) (sda_ex (sd_call (Ca.df rfl C_law_take hr (by decide)) rfl (.cons (sda_var 0) (fun _ => rfl) (.cons (sda_ex (sd_int)) (fun _ => rfl) (.nil))))))

theorem d_law_refused {f : Addr} {fd : FuncData} (F : Fun Γ.K "_law_refused" "_law_refused" s_law_refused f fd) (T : Tx Γ mg CB CC CM) (V3 : MkCa Γ P w mg base 0 "Letter" 7 f_LT_init ["answers", "subject", "words"] 4 [] 3) (Z3 : MzCa Γ P w mg base 0 "Letter" CB "field" (zf_LT_init (Γ := Γ)) ["answers", "subject", "words"] 4 [] 3) : FnOk P w Γ.K mg base CX0 5 f fd ["_law_fields_here"] (spG Γ 1 f_law_refused) := by
  refine fn_okG (k := 4) (A := [1, 2]) (body := b_law_refused) F sc_law_refused rfl rfl rfl fun cdv Ar outer s H E hr => ?_
  unfold b_law_refused
  have e : defBody s_law_refused = [_, _, _] := rfl
  rw [e]
  refine sdss_cons ?_ ?_
  · exact sds_set 1 (by decide) rfl (by first | exact Or.inl rfl | exact Or.inr rfl) (sd_non)
  refine sdss_cons ?_ ?_
  · exact sds_tryR (it := 1) (ie := 2) (MkCa.kw rfl V3 hr (by decide)) (MzCa.z rfl Z3 hr (by decide)) rfl (fun _ _ => .cons (sda_ex (sd_ix (sda_var 0) (sda_ex (sd_int)))) (fun _ => rfl) (.cons (sda_ex (sd_ix (sda_var 0) (sda_ex (sd_int)))) (fun _ => rfl) (.cons (sda_ex (sd_ix (sda_var 0) (sda_ex (sd_int)))) (fun _ => rfl) (.cons (sda_ex (sd_ix (sda_var 0) (sda_ex (sd_int)))) (fun _ => rfl) (.cons (sda_ex (sd_ix (sda_var 0) (sda_ex (sd_int)))) (fun _ => rfl) (.cons (sda_ex (sd_ix (sda_var 0) (sda_ex (sd_int)))) (fun _ => rfl) (.nil))))))) rfl rfl rfl rfl (by decide) (by decide) rfl rfl rfl rfl ⟨rfl, by decide, .inl T.mClash⟩ ⟨rfl, by decide, .inl T.mBad⟩ T.xClash T.xBad T.xf T.noF
  refine sdss_one ?_
  exact sds_retMv 1

theorem d_law_caught {f : Addr} {fd : FuncData} (F : Fun Γ.K "_law_caught" "_law_caught" s_law_caught f fd) (T : Tx Γ mg CB CC CM) (V3 : MkCa Γ P w mg base 0 "Letter" 7 f_LT_init ["answers", "subject", "words"] 4 [] 3) (Z3 : MzCa Γ P w mg base 0 "Letter" CB "field" (zf_LT_init (Γ := Γ)) ["answers", "subject", "words"] 4 [] 3) : FnOk P w Γ.K mg base CX0 5 f fd ["_law_fields_here"] (spG Γ 1 f_law_caught) := by
  refine fn_okG (k := 4) (A := []) (body := b_law_caught) F sc_law_caught rfl rfl rfl fun cdv Ar outer s H E hr => ?_
  unfold b_law_caught
  have e : defBody s_law_caught = [_, _] := rfl
  rw [e]
  refine sdss_cons ?_ ?_
  · exact sds_tryC (MkCa.kw rfl V3 hr (by decide)) (MzCa.z rfl Z3 hr (by decide)) rfl (fun _ _ => .cons (sda_ex (sd_ix (sda_var 0) (sda_ex (sd_int)))) (fun _ => rfl) (.cons (sda_ex (sd_ix (sda_var 0) (sda_ex (sd_int)))) (fun _ => rfl) (.cons (sda_ex (sd_ix (sda_var 0) (sda_ex (sd_int)))) (fun _ => rfl) (.cons (sda_ex (sd_ix (sda_var 0) (sda_ex (sd_int)))) (fun _ => rfl) (.cons (sda_ex (sd_ix (sda_var 0) (sda_ex (sd_int)))) (fun _ => rfl) (.cons (sda_ex (sd_ix (sda_var 0) (sda_ex (sd_int)))) (fun _ => rfl) (.nil))))))) rfl rfl rfl rfl ⟨rfl, by decide, .inl T.mMail⟩ T.xMail
  refine sdss_one ?_
  exact sds_ret (sd_bl)

theorem d_law_are_told {f : Addr} {fd : FuncData} (F : Fun Γ.K "_law_are_told" "_law_are_told" s_law_are_told f fd) (T : Tx Γ mg CB CC CM) (C_is_number : Ca Γ P w mg base "is_number" 1 f_is_number 1) (C_is_name : Ca Γ P w mg base "is_name" 1 f_is_name 1) : FnOk P w Γ.K mg base CX0 2 f fd ["_law_fields_here"] (spG Γ 1 f_law_are_told) := by
  refine fn_okG (k := 1) (A := [1]) (body := b_law_are_told) F sc_law_are_told rfl rfl rfl fun cdv Ar outer s H E hr => ?_
  unfold b_law_are_told
  have e : defBody s_law_are_told = [_, _, _, _] := rfl
  rw [e]
  refine sdss_cons ?_ ?_
  · exact sds_if (SdW.t (sdw_or (sdt_not (sdt_tru (sda_ex (sd_call (Ca.df rfl C_is_name hr (by decide)) rfl (.cons (sda_ex (sd_ix (sda_var 0) (sda_ex (sd_int)))) (fun _ => rfl) (.nil)))))) (sdw_or (sdt_not (sdt_tru (sda_ex (sd_call (Ca.df rfl C_is_name hr (by decide)) rfl (.cons (sda_ex (sd_ix (sda_var 0) (sda_ex (sd_int)))) (fun _ => rfl) (.nil)))))) (sdw_or (sdt_not (sdt_tru (sda_ex (sd_call (Ca.df rfl C_is_number hr (by decide)) rfl (.cons (sda_ex (sd_ix (sda_var 0) (sda_ex (sd_int)))) (fun _ => rfl) (.nil)))))) (sdw_or1 (sdt_tru (sda_ex (sd_call (Ca.df rfl C_is_number hr (by decide)) rfl (.cons (sda_ex (sd_ix (sda_var 0) (sda_ex (sd_int)))) (fun _ => rfl) (.nil)))))))))) (sdss_one (sds_ret (sd_bl))) (sdss_nil)
  refine sdss_cons ?_ ?_
  · exact sds_set 1 (by decide) rfl (by first | exact Or.inl rfl | exact Or.inr rfl) (sd_lst (.cons (sda_ex (sd_str)) (fun _ => rfl) (.cons (sda_ex (sd_str)) (fun _ => rfl) (.cons (sda_ex (sd_str)) (fun _ => rfl) (.cons (sda_ex (sd_str)) (fun _ => rfl) (.cons (sda_ex (sd_str)) (fun _ => rfl) (.cons (sda_ex (sd_non)) (fun _ => rfl) (.cons (sda_ex (sd_int)) (fun _ => rfl) (.cons (sda_ex (sd_frz (sd_lst (.cons (sda_ex (sd_str)) (fun _ => rfl) (.nil))))) (fun _ => rfl) (.cons (sda_ex (sd_frz (sd_add (sda_ex (sd_ix (sda_var 0) (sda_ex (sd_int)))) (sda_ex (sd_str))))) (fun _ => rfl) (.cons (sda_ex (sd_frz (sd_upper (sd_ix (sda_var 0) (sda_ex (sd_int)))))) (fun _ => rfl) (.cons (sda_ex (sd_bl)) (fun _ => rfl) (.nil)))))))))))))
  refine sdss_cons ?_ ?_
  · exact sds_if (SdW.t (sdw_or (sdt_tru (sda_ex (sd_callB b_any rfl T.n_any (by decide +kernel) (.cons (sda_ex (sd_lc (own := [("_law_each", 2)]) (blkOk_by (by exact rfl)) (sdi_seq (sd_var 1)) (fun _ _ _ _ _ => sdg_name 2 (by simp) rfl (by first | exact Or.inl rfl | exact Or.inr rfl) (by first | exact Or.inl rfl | exact Or.inr rfl)) .nil (fun _ _ _ _ _ => sd_frz (sd_call (Ca.df rfl C_is_name hr (by decide)) rfl (.cons (sda_var 2) (fun _ => rfl) (.nil)))))) (fun _ => rfl) (.nil))))) (sdw_or1 (sdt_tru (sda_ex (sd_call (Ca.df rfl C_is_name hr (by decide)) rfl (.cons (sda_ex (sd_ix (sda_var 0) (sda_ex (sd_int)))) (fun _ => rfl) (.nil)))))))) (sdss_one (sds_ret (sd_bl))) (sdss_nil)
  refine sdss_one ?_
  exact sds_ret (sd_notE (sd_callB b_any rfl T.n_any (by decide +kernel) (.cons (sda_ex (sd_lc (own := [("_law_each", 2)]) (blkOk_by (by exact rfl)) (sdi_seq (sd_frz (sd_lst (.cons (sda_ex (sd_int)) (fun _ => rfl) (.cons (sda_ex (sd_frz (sd_add (sda_ex (sd_pow (sda_ex (sd_int)) (sda_ex (sd_int)))) (sda_ex (sd_int))))) (fun _ => rfl) (.cons (sda_ex (sd_neg (sda_ex (sd_ix (sda_var 0) (sda_ex (sd_int)))))) (fun _ => rfl) (.cons (sda_ex (sd_bl)) (fun _ => rfl) (.cons (sda_ex (sd_str)) (fun _ => rfl) (.cons (sda_ex (sd_non)) (fun _ => rfl) (.cons (sda_ex (sd_frz (sd_lst (.cons (sda_ex (sd_int)) (fun _ => rfl) (.nil))))) (fun _ => rfl) (.nil))))))))))) (fun _ _ _ _ _ => sdg_name 2 (by simp) rfl (by first | exact Or.inl rfl | exact Or.inr rfl) (by first | exact Or.inl rfl | exact Or.inr rfl)) .nil (fun _ _ _ _ _ => sd_frz (sd_call (Ca.df rfl C_is_number hr (by decide)) rfl (.cons (sda_var 2) (fun _ => rfl) (.nil)))))) (fun _ => rfl) (.nil))))

end
end K

/-! the defs of the text, by gen00.py f -/
namespace K
open PySem L2 G
section
variable {Γ : Gam} {P : Program} {w : World} {mg : Str → Option Value} {base : Heap} {CB CC CM : Addr}
theorem d_law_is_made {f : Addr} {fd : FuncData} (F : Fun Γ.K "_law_is_made" "_law_is_made" s_law_is_made f fd) (T : Tx Γ mg CB CC CM) (L3 : MkCa Γ P w mg base 0 "Letter" 7 (lend 4 (lend 6 f_LT_init)) ["answers", "subject", "words"] 4 [] 3) (N_eq : OnCa Γ P w mg base 0 f_LT_eq 1) (C_law_letter : Ca Γ P w mg base "_law_letter" 1 f_law_letter 5) (O_eq : OCa Γ P w mg base 0 "__eq__" f_LT_eq 1) : FnOk P w Γ.K mg base CX0 6 f fd ["_law_fields_here"] (spG Γ 1 f_law_is_made) := by
  refine fn_okG (k := 5) (A := [1, 2, 3, 4]) (body := b_law_is_made) F sc_law_is_made rfl rfl rfl fun cdv Ar outer s H E hr => ?_
  unfold b_law_is_made
  have e : defBody s_law_is_made = [_, _, _, _, _, _, _, _, _, _] := rfl
  rw [e]
  refine sdss_cons ?_ ?_
  · exact sds_par3 (i := 1) (j := 2) (l := 3) (by decide) (by decide) (by decide) rfl rfl rfl (by decide) (by decide) (by decide) rfl rfl rfl (sd_callTy b_list rfl T.n_list (by decide +kernel) (.cons (sda_ex (sd_ix (sda_var 0) (sda_ex (sd_int)))) (fun _ => rfl) (.nil))) (fun _ => rfl) (sd_callTy b_list rfl T.n_list (by decide +kernel) (.cons (sda_ex (sd_ix (sda_var 0) (sda_ex (sd_int)))) (fun _ => rfl) (.nil))) (fun _ => rfl) (sd_callTy b_list rfl T.n_list (by decide +kernel) (.cons (sda_ex (sd_ix (sda_var 0) (sda_ex (sd_int)))) (fun _ => rfl) (.nil))) (fun _ => rfl) rfl
  refine sdss_cons ?_ ?_
  · exact sds_set 4 (by decide) rfl (by first | exact Or.inl rfl | exact Or.inr rfl) (sd_makeK (MkCa.kw rfl L3 hr (by decide)) rfl (.cons (sda_ex (sd_ix (sda_var 0) (sda_ex (sd_int)))) (fun _ => rfl) (.cons (sda_ex (sd_ix (sda_var 0) (sda_ex (sd_int)))) (fun _ => rfl) (.cons (sda_ex (sd_ix (sda_var 0) (sda_ex (sd_int)))) (fun _ => rfl) (.cons (sda_var 1) (fun _ => rfl) (.cons (sda_ex (sd_callTy b_tuple rfl T.n_tuple (by decide +kernel) (.cons (sda_var 2) (fun _ => rfl) (.nil)))) (fun _ => rfl) (.cons (sda_var 3) (fun _ => rfl) (.nil))))))) rfl rfl)
  refine sdss_cons ?_ ?_
  · exact sds_if (SdW.t (sdw_or (sdt_cmp c_ne (sda_var 1) (sda_ex (sd_ix (sda_var 0) (sda_ex (sd_int))))) (sdw_or (sdt_cmp c_ne (sda_var 2) (sda_ex (sd_ix (sda_var 0) (sda_ex (sd_int))))) (sdw_or1 (sdt_cmp c_ne (sda_var 3) (sda_ex (sd_ix (sda_var 0) (sda_ex (sd_int))))))))) (sdss_one (sds_ret (sd_bl))) (sdss_nil)
  refine sdss_cons ?_ ?_
  · exact sds_expr (sd_mut 1 PySem.F.slot_list_append PySem.F.type_list_append mt_append uAppend_ok rfl (by first | exact Or.inl rfl | exact Or.inr (Or.inl rfl) | exact Or.inr (Or.inr rfl)) (.cons (sda_ex (sd_int)) (fun _ => rfl) (.nil)))
  refine sdss_cons ?_ ?_
  · exact sds_expr (sd_mut 3 PySem.F.slot_list_append PySem.F.type_list_append mt_append uAppend_ok rfl (by first | exact Or.inl rfl | exact Or.inr (Or.inl rfl) | exact Or.inr (Or.inr rfl)) (.cons (sda_ex (sd_str)) (fun _ => rfl) (.nil)))
  refine sdss_cons ?_ ?_
  · exact sds_if (SdW.t (sdw_or (sdt_cmp c_ne (sda_ex (sd_q (sdq_fld 4 T.f_number))) (sda_ex (sd_ix (sda_var 0) (sda_ex (sd_int))))) (sdw_or1 (sdt_tru (sda_ex (sd_isi (T := "bool") (by unfold fiveTy; simp) rfl T.n_isinstance rfl T.n_bool (by decide +kernel) (sda_ex (sd_q (sdq_fld 4 T.f_number))) (fun _ => rfl))))))) (sdss_one (sds_ret (sd_bl))) (sdss_nil)
  refine sdss_cons ?_ ?_
  · exact sds_if (SdW.t (sdw_or (sdt_cmp c_ne (sda_ex (sd_q (sdq_fld 4 T.f_person))) (sda_ex (sd_ix (sda_var 0) (sda_ex (sd_int))))) (sdw_or1 (sdt_cmp c_ne (sda_ex (sd_q (sdq_fld 4 T.f_house))) (sda_ex (sd_ix (sda_var 0) (sda_ex (sd_int)))))))) (sdss_one (sds_ret (sd_bl))) (sdss_nil)
  refine sdss_cons ?_ ?_
  · exact sds_if (sdt_cmp c_ne (sda_ex (sd_q (sdq_fld 4 T.f_sender))) (sda_ex (sd_add (sda_ex (sd_add (sda_ex (sd_ix (sda_var 0) (sda_ex (sd_int)))) (sda_ex (sd_str)))) (sda_ex (sd_ix (sda_var 0) (sda_ex (sd_int))))))) (sdss_one (sds_ret (sd_bl))) (sdss_nil)
  refine sdss_cons ?_ ?_
  · exact sds_if (SdW.t (sdw_or (sdt_cmp c_ne (sda_ex (sd_q (sdq_fld 4 T.f_answers))) (sda_ex (sd_callTy b_tuple rfl T.n_tuple (by decide +kernel) (.cons (sda_ex (sd_ix (sda_var 0) (sda_ex (sd_int)))) (fun _ => rfl) (.nil))))) (sdw_or1 (sdt_cmp c_ne (sda_ex (sd_q (sdq_fld 4 T.f_subject))) (sda_ex (sd_callTy b_tuple rfl T.n_tuple (by decide +kernel) (.cons (sda_ex (sd_ix (sda_var 0) (sda_ex (sd_int)))) (fun _ => rfl) (.nil)))))))) (sdss_one (sds_ret (sd_bl))) (sdss_nil)
  refine sdss_one ?_
  exact sds_ret (sd_and (sd_cmp c_eq (sda_ex (sd_q (sdq_fld 4 T.f_words))) (sda_ex (sd_callTy b_tuple rfl T.n_tuple (by decide +kernel) (.cons (sda_ex (sd_ix (sda_var 0) (sda_ex (sd_int)))) (fun _ => rfl) (.nil))))) (sd_and (sd_ownEq (OCa.ow rfl O_eq hr (by decide)) (.cons (sda_var 4) (fun _ => rfl) (.cons (sda_ex (sd_call (Ca.df rfl C_law_letter hr (by decide)) rfl (.cons (sda_var 0) (fun _ => rfl) (.nil)))) (fun _ => rfl) .nil))) (sd_one (sd_ownNe (OnCa.o rfl N_eq hr (by decide)) (.cons (sda_var 4) (fun _ => rfl) (.cons (sda_ex (sd_q (sdq_fld 4 T.f_number))) (fun _ => rfl) .nil))))))

end
end K

/-! the defs of the text, by gen00.py g -/
namespace K
open PySem L2 G
section
variable {Γ : Gam} {P : Program} {w : World} {mg : Str → Option Value} {base : Heap} {CB CC CM : Addr}
theorem d_law {f : Addr} {fd : FuncData} (F : Fun Γ.K "law" "law" s_law f fd) (T : Tx Γ mg CB CC CM) (V0 : MkCa Γ P w mg base 0 "Letter" 7 f_LT_init [] 4 [.tup [], .tup [], .tup []] 3) (V1 : MkCa Γ P w mg base 0 "Letter" 7 f_LT_init ["words"] 4 [.tup [], .tup []] 3) (N_eq : OnCa Γ P w mg base 0 f_LT_eq 1) (C_law_bag : Ca Γ P w mg base "_law_bag" 2 f_law_bag 1) (C_law_fields : Ca Γ P w mg base "_law_fields" 1 f_law_fields 4) (C_law_is_made : Ca Γ P w mg base "_law_is_made" 1 f_law_is_made 6) (C_law_take : Ca Γ P w mg base "_law_take" 2 f_law_take 1) (C_law_letter : Ca Γ P w mg base "_law_letter" 1 f_law_letter 5) (O_eq : OCa Γ P w mg base 0 "__eq__" f_LT_eq 1) (C_law_bad : Ca Γ P w mg base "_law_bad" 3 f_law_bad 2) (C_law_caught : Ca Γ P w mg base "_law_caught" 1 f_law_caught 5) (C_law_refused : Ca Γ P w mg base "_law_refused" 1 f_law_refused 5) (C_law_are_told : Ca Γ P w mg base "_law_are_told" 1 f_law_are_told 2) : FnOk P w Γ.K mg base CX0 7 f fd ["_law_script"] (spG Γ 1 f_law) := by
  refine fn_okG (k := 6) (A := [1, 2, 3, 4, 5, 6, 7, 8, 9, 10]) (body := b_law) F sc_law rfl rfl rfl fun cdv Ar outer s H E hr => ?_
  unfold b_law
  have e : defBody s_law = [_, _, _, _, _] := rfl
  rw [e]
  refine sdss_cons ?_ ?_
  · exact sds_set 1 (by decide) rfl (by first | exact Or.inl rfl | exact Or.inr rfl) (sd_lst (.cons (sda_ex (sd_str)) (fun _ => rfl) (.cons (sda_ex (sd_str)) (fun _ => rfl) (.cons (sda_ex (sd_str)) (fun _ => rfl) (.cons (sda_ex (sd_str)) (fun _ => rfl) (.cons (sda_ex (sd_str)) (fun _ => rfl) (.cons (sda_ex (sd_str)) (fun _ => rfl) (.nil))))))))
  refine sdss_cons ?_ ?_
  · exact sds_set 2 (by decide) rfl (by first | exact Or.inl rfl | exact Or.inr rfl) (sd_makeK (MkCa.kw rfl V0 hr (by decide)) rfl (.cons (sda_ex (sd_int)) (fun _ => rfl) (.cons (sda_ex (sd_str)) (fun _ => rfl) (.cons (sda_ex (sd_str)) (fun _ => rfl) (.nil)))) rfl rfl)
  refine sdss_cons ?_ ?_
  · exact sds_if (SdW.t (sdw_or (sdt_cmp c_ne (sda_ex (sd_q (sdq_fld 2 T.f_answers))) (sda_ex (sd_tup (.nil)))) (sdw_or (sdt_cmp c_ne (sda_ex (sd_q (sdq_fld 2 T.f_subject))) (sda_ex (sd_tup (.nil)))) (sdw_or (sdt_cmp c_ne (sda_ex (sd_q (sdq_fld 2 T.f_words))) (sda_ex (sd_tup (.nil)))) (sdw_or1 (sdt_ownNe (OnCa.o rfl N_eq hr (by decide)) (.cons (sda_var 2) (fun _ => rfl) (.cons (sda_ex (sd_makeK (MkCa.kw rfl V1 hr (by decide)) rfl (.cons (sda_ex (sd_int)) (fun _ => rfl) (.cons (sda_ex (sd_str)) (fun _ => rfl) (.cons (sda_ex (sd_str)) (fun _ => rfl) (.cons (sda_ex (sd_lst (.nil))) (fun _ => rfl) (.nil))))) rfl rfl)) (fun _ => rfl) .nil)))))))) (sdss_one (sds_ret (sd_bl))) (sdss_nil)
  refine sdss_cons ?_ ?_
  · exact sds_for PassesOwn.never (sdi_range rfl T.n_range (sd_callB b_max rfl T.n_max (by decide +kernel) (.cons (sda_ex (sd_int)) (fun _ => rfl) (.cons (sda_ex (sd_callB b_min rfl T.n_min (by decide +kernel) (.cons (sda_ex (sd_int)) (fun _ => rfl) (.cons (sda_ex (sd_callB b_len rfl T.n_len (by decide +kernel) (.cons (sda_var 0) (fun _ => rfl) (.nil)))) (fun _ => rfl) (.nil))))) (fun _ => rfl) (.nil)))) (fun _ => rfl)) (sdg_name 3 (by decide) rfl (by first | exact Or.inl rfl | exact Or.inr rfl) (by first | exact Or.inl rfl | exact Or.inr rfl))
        (sdss_cons (sds_set 4 (by decide) rfl (by first | exact Or.inl rfl | exact Or.inr rfl) (sd_call (Ca.df rfl C_law_bag hr (by decide)) rfl (.cons (sda_var 0) (fun _ => rfl) (.cons (sda_var 3) (fun _ => rfl) (.nil)))))
        (sdss_cons (sds_set 5 (by decide) rfl (by first | exact Or.inl rfl | exact Or.inr rfl) (sd_call (Ca.df rfl C_law_fields hr (by decide)) rfl (.cons (sda_var 4) (fun _ => rfl) (.nil))))
        (sdss_cons (sds_if (sdt_not (sdt_tru (sda_ex (sd_call (Ca.df rfl C_law_is_made hr (by decide)) rfl (.cons (sda_var 5) (fun _ => rfl) (.nil)))))) (sdss_one (sds_ret (sd_bl))) (sdss_nil))
        (sdss_cons ((by first | exact sds_par (i := 6) (j := 7) (by decide) (by decide) rfl rfl (by decide) rfl rfl (sd_callTy b_list rfl T.n_list (by decide +kernel) (.cons (sda_var 5) (fun _ => rfl) (.nil))) (fun _ => rfl) (sd_call (Ca.df rfl C_law_take hr (by decide)) rfl (.cons (sda_var 4) (fun _ => rfl) (.cons (sda_ex (sd_int)) (fun _ => rfl) (.nil)))) (fun _ => rfl) rfl))
        (sdss_cons (sds_set 8 (by decide) rfl (by first | exact Or.inl rfl | exact Or.inr rfl) (sd_call (Ca.df rfl C_law_fields hr (by decide)) rfl (.cons (sda_var 4) (fun _ => rfl) (.nil))))
        (sdss_cons (sds_if (SdW.t (sdw_and (sdt_cmp c_ne (sda_var 7) (sda_ex (sd_int))) (sdw_and1 (sdt_cmp c_ne (sda_var 7) (sda_ex (sd_int)))))) (sdss_one (sds_setIx 6 rfl (by first | exact Or.inl rfl | exact Or.inr (Or.inl rfl) | exact Or.inr (Or.inr rfl)) (sd_ix (sda_var 8) (sda_var 7)) (sd_var 7))) (sdss_nil))
        (sdss_cons (sds_if (sdt_cmp c_eq (sda_var 7) (sda_ex (sd_int))) (sdss_one (sds_set 6 (by decide) rfl (by first | exact Or.inl rfl | exact Or.inr rfl) (sd_lst (.cons (sda_ex (sd_frz (sd_add (sda_ex (sd_mod (sda_ex (sd_callTy b_int rfl T.n_int (by decide +kernel) (.cons (sda_ex (sd_ix (sda_var 5) (sda_ex (sd_int)))) (fun _ => rfl) (.nil)))) (sda_ex (sd_pow (sda_ex (sd_int)) (sda_ex (sd_int)))))) (sda_ex (sd_int))))) (fun _ => rfl) (.cons (sda_ex (sd_ix (sda_var 5) (sda_ex (sd_int)))) (fun _ => rfl) (.cons (sda_ex (sd_ix (sda_var 5) (sda_ex (sd_int)))) (fun _ => rfl) (.cons (sda_ex (sd_frz (sd_lst (.nil)))) (fun _ => rfl) (.cons (sda_ex (sd_ix (sda_var 5) (sda_ex (sd_int)))) (fun _ => rfl) (.cons (sda_ex (sd_ix (sda_var 5) (sda_ex (sd_int)))) (fun _ => rfl) (.nil)))))))))) (sdss_nil))
        (sdss_cons (sds_if (sdt_cmp c_eq (sda_var 7) (sda_ex (sd_int))) (sdss_one (sds_setIx 6 rfl (by first | exact Or.inl rfl | exact Or.inr (Or.inl rfl) | exact Or.inr (Or.inr rfl)) (sd_frz (sd_rev (sda_ex (sd_ix (sda_var 6) (sda_ex (sd_int)))))) (sd_int))) (sdss_nil))
        (sdss_cons (sds_if (sdt_cmp c_ne (sda_ex (sd_ownEq (OCa.ow rfl O_eq hr (by decide)) (.cons (sda_ex (sd_call (Ca.df rfl C_law_letter hr (by decide)) rfl (.cons (sda_var 5) (fun _ => rfl) (.nil)))) (fun _ => rfl) (.cons (sda_ex (sd_call (Ca.df rfl C_law_letter hr (by decide)) rfl (.cons (sda_var 6) (fun _ => rfl) (.nil)))) (fun _ => rfl) .nil)))) (sda_ex (sd_cmp c_eq (sda_var 5) (sda_var 6)))) (sdss_one (sds_ret (sd_bl))) (sdss_nil))
        (sdss_cons ((by first | exact sds_par (i := 9) (j := 10) (by decide) (by decide) rfl rfl (by decide) rfl rfl (sd_callTy b_list rfl T.n_list (by decide +kernel) (.cons (sda_var 5) (fun _ => rfl) (.nil))) (fun _ => rfl) (sd_callB b_sorted rfl T.n_sorted (by decide +kernel) (.cons (sda_ex (sd_lst (.cons (sda_ex (sd_frz (sd_call (Ca.df rfl C_law_take hr (by decide)) rfl (.cons (sda_var 4) (fun _ => rfl) (.cons (sda_ex (sd_int)) (fun _ => rfl) (.nil)))))) (fun _ => rfl) (.cons (sda_ex (sd_frz (sd_call (Ca.df rfl C_law_take hr (by decide)) rfl (.cons (sda_var 4) (fun _ => rfl) (.cons (sda_ex (sd_int)) (fun _ => rfl) (.nil)))))) (fun _ => rfl) (.nil))))) (fun _ => rfl) (.nil))) (fun _ => rfl) rfl))
        (sdss_cons (sds_for PassesOwn.never (sdi_seq (sd_var 10)) (sdg_name 7 (by decide) rfl (by first | exact Or.inl rfl | exact Or.inr rfl) (by first | exact Or.inl rfl | exact Or.inr rfl))
        (sdss_one (sds_setIx 9 rfl (by first | exact Or.inl rfl | exact Or.inr (Or.inl rfl) | exact Or.inr (Or.inr rfl)) (sd_frz (sd_call (Ca.df rfl C_law_bad hr (by decide)) rfl (.cons (sda_var 4) (fun _ => rfl) (.cons (sda_var 7) (fun _ => rfl) (.cons (sda_var 9) (fun _ => rfl) (.nil)))))) (sd_var 7))))
        (sdss_cons (sds_if (SdW.t (sdw_or (sdt_cmp c_ne (sda_ex (sd_call (Ca.df rfl C_law_refused hr (by decide)) rfl (.cons (sda_var 9) (fun _ => rfl) (.nil)))) (sda_ex (sd_ix (sda_var 1) (sda_ex (sd_ix (sda_var 10) (sda_ex (sd_int))))))) (sdw_or1 (sdt_not (sdt_tru (sda_ex (sd_call (Ca.df rfl C_law_caught hr (by decide)) rfl (.cons (sda_var 9) (fun _ => rfl) (.nil))))))))) (sdss_one (sds_ret (sd_bl))) (sdss_nil))
        (sdss_one (sds_if (SdW.t (sdw_or (sdt_cmp c_isn (sda_ex (sd_call (Ca.df rfl C_law_refused hr (by decide)) rfl (.cons (sda_var 5) (fun _ => rfl) (.nil)))) (sda_ex (sd_non))) (sdw_or (sdt_not (sdt_tru (sda_ex (sd_call (Ca.df rfl C_law_is_made hr (by decide)) rfl (.cons (sda_var 5) (fun _ => rfl) (.nil)))))) (sdw_or1 (sdt_not (sdt_tru (sda_ex (sd_call (Ca.df rfl C_law_are_told hr (by decide)) rfl (.cons (sda_var 5) (fun _ => rfl) (.nil)))))))))) (sdss_one (sds_ret (sd_bl))) (sdss_nil)))))))))))))))
  refine sdss_one ?_
  exact sds_ret (sd_bl)

end
end K

/-! M00a: pieces of mirrors, draws of k00 -/
namespace K
open PySem L2 G
section
variable {Γ : Gam}
theorem seq_nx {f g : Es Γ} {env e1 : Env Γ} (h : f env = some (.nx, e1)) : mSeq f g env = g e1 := by unfold mSeq; rw [h]
theorem seq_rt {f g : Es Γ} {env e1 : Env Γ} {s : Sl Γ} (h : f env = some (.rt s, e1)) : mSeq f g env = some (.rt s, e1) := by unfold mSeq; rw [h]
theorem seq_no {f g : Es Γ} {env : Env Γ} (h : f env = none) : mSeq f g env = none := by unfold mSeq; rw [h]
theorem set_eq {i : Nat} {f : Ev Γ} {env e1 : Env Γ} {s : Sl Γ} (h : f env = some (s, e1)) (hi : i < e1.length) : mSet i f env = some (.nx, e1.set i s) := by unfold mSet; rw [h]; exact if_pos hi
theorem par_eq {i j : Nat} {f g : Ev Γ} {env e1 e2 : Env Γ} {s t : Sl Γ} (h : f env = some (s, e1)) (h' : g e1 = some (t, e2)) (hi : i < e2.length) (hj : j < e2.length) : mPar i j f g env = some (.nx, (e2.set i s).set j t) := by unfold mPar; rw [h]; simp only [h']; exact if_pos ⟨hi, hj⟩
theorem ifs_t {c : Et Γ} {f g : Es Γ} {env e1 : Env Γ} (h : c env = some (true, e1)) : mIfS c f g env = f e1 := by unfold mIfS; rw [h]
theorem ifs_f {c : Et Γ} {f g : Es Γ} {env e1 : Env Γ} (h : c env = some (false, e1)) : mIfS c f g env = g e1 := by unfold mIfS; rw [h]
theorem ret_eq {f : Ev Γ} {env e1 : Env Γ} {s : Sl Γ} (h : f env = some (s, e1)) : mRet f env = some (.rt s, e1) := by unfold mRet; rw [h]; rfl
theorem for_eq {fi : Ei Γ} {t : Eg Γ} {g : Es Γ} {env e1 e2 : Env Γ} {ds : List G.D} {fl : Fl Γ} (h : fi env = some (ds, e1)) (h' : forL t g ds e1 = some (fl, e2)) : mFor fi t g env = some (fl, e2) := by unfold mFor; rw [h]; exact h'
theorem frz_dat {f : Ev Γ} {env e1 : Env Γ} {d : G.D} (h : f env = some (.dat d, e1)) : mFrz f env = some (.dat d, e1) := by unfold mFrz; rw [h]
theorem frz_lst {f : Ev Γ} {env e1 : Env Γ} {ds : List G.D} (h : f env = some (.lst ds, e1)) : mFrz f env = some (.dat (.lst ds), e1) := by unfold mFrz; rw [h]
theorem fun_rt {np loc : Nat} {A : List Nat} {body : Es Γ} {args e' : Env Γ} {s : Sl Γ} (h1 : args.length = np) (h2 : ((A.filter (· < np)).all fun i => match args[i]? with | some s => nonOwn s | none => true) = true) (hb : body (args ++ List.replicate loc .none) = some (.rt s, e')) :
    mFun np loc A body args = some (s, backE args (e'.take np) (A.filter (· < np))) := by unfold mFun; rw [if_pos ⟨h1, h2⟩, hb]
theorem fun_nx {np loc : Nat} {A : List Nat} {body : Es Γ} {args e' : Env Γ} (h1 : args.length = np) (h2 : ((A.filter (· < np)).all fun i => match args[i]? with | some s => nonOwn s | none => true) = true) (hb : body (args ++ List.replicate loc .none) = some (.nx, e')) :
    mFun np loc A body args = some (.dat .non, backE args (e'.take np) (A.filter (· < np))) := by unfold mFun; rw [if_pos ⟨h1, h2⟩, hb]
theorem fun_no {np loc : Nat} {A : List Nat} {body : Es Γ} {args : Env Γ} (hb : body (args ++ List.replicate loc .none) = none) : mFun np loc A body args = none := by
  unfold mFun
  rw [hb]
  split <;> rfl
theorem m1_ex {p : Sl Γ → Option (Sl Γ)} {f : Ev Γ} {env e1 : Env Γ} {s u : Sl Γ} (h1 : f env = some (s, e1)) (h3 : p s = some u) : m1 p (.ex f) env = some (u, e1) := by
  simp only [m1, evA, h1, Option.map_some, peek, h3]
theorem m2_ex {p : Sl Γ → Sl Γ → Option (Sl Γ)} {f g : Ev Γ} {env e1 e2 : Env Γ} {s t u : Sl Γ} (h1 : f env = some (s, e1)) (h2 : g e1 = some (t, e2)) (h3 : p s t = some u) : m2 p (.ex f) (.ex g) env = some (u, e2) := by
  simp only [m2, evA, h1, h2, Option.map_some, peek, h3]
theorem forL_run {t : Eg Γ} {g : Es Γ} (I : List G.D → Env Γ → Prop) (st : ∀ d ds env, I (d :: ds) env → ∃ e1 e2, t d env = some e1 ∧ g e1 = some (.nx, e2) ∧ I ds e2) :
    ∀ (ds : List G.D) (env : Env Γ), I ds env → ∃ e, forL t g ds env = some (.nx, e) ∧ I [] e
  | [], env, h => ⟨env, rfl, h⟩
  | d :: ds, env, h => by
    obtain ⟨e1, e2, h1, h2, h3⟩ := st d ds env h
    obtain ⟨e, h4, h5⟩ := forL_run I st ds e2 h3
    refine ⟨e, ?_, h5⟩
    unfold forL
    rw [h1]
    simp only [h2]
    exact h4
/-- a comprehension whose turns change the frame within I -/
theorem compL_inv {vs : List Nat} {t : Eg Γ} {f : Ev Γ} (I : Env Γ → Prop) (Q : G.D → Prop) : ∀ (ds : List G.D), (∀ d ∈ ds, ∀ env, I env → ∃ e1 y e2 e3, t d env = some e1 ∧ f e1 = some (.dat y, e2) ∧ wipeE vs e2 = some e3 ∧ I e3 ∧ Q y) →
    ∀ env, I env → ∃ ys e, compL vs t (fun env => some (true, env)) f ds env = some (ys, e) ∧ I e ∧ ys.length = ds.length ∧ ∀ y ∈ ys, Q y
  | [], _, env, h => ⟨[], env, rfl, h, rfl, fun _ z => nomatch z⟩
  | d :: ds, st, env, h => by
    obtain ⟨e1, y, e2, e3, h1, h2, h3, h4, h5⟩ := st d List.mem_cons_self env h
    obtain ⟨ys, e, k1, k2, k3, k4⟩ := compL_inv I Q ds (fun d hd => st d (List.mem_cons_of_mem _ hd)) e3 h4
    refine ⟨y :: ys, e, ?_, k2, by rw [List.length_cons, List.length_cons, k3], fun z hz => ?_⟩
    · unfold compL
      rw [h1]
      simp only [h2, h3, k1, Option.map_some]
    · rcases List.mem_cons.mp hz with q | q
      · rw [q]; exact h5
      · exact k4 z q
theorem compL_map {vs : List Nat} {t : Eg Γ} {f : Ev Γ} {env : Env Γ} (g : G.D → G.D) : ∀ (ds : List G.D), (∀ d ∈ ds, ∃ e1 e2, t d env = some e1 ∧ f e1 = some (.dat (g d), e2) ∧ wipeE vs e2 = some env) → compL vs t (fun env => some (true, env)) f ds env = some (ds.map g, env)
  | [], _ => rfl
  | d :: ds, st => by
    obtain ⟨e1, e2, h1, h2, h3⟩ := st d List.mem_cons_self
    have k := compL_map g ds (fun d hd => st d (List.mem_cons_of_mem _ hd))
    unfold compL
    rw [h1]
    simp only [h2, h3, k, Option.map_some]
    rfl
theorem lc_eq {fi : Ei Γ} {vs : List Nat} {t : Eg Γ} {tc : Et Γ} {f : Ev Γ} {env e1 e2 e3 : Env Γ} {ds ys : List G.D} (h1 : fi env = some (ds, e1)) (hl : ds.length ≤ sizeLine) (h2 : wipeE vs e1 = some e2) (h3 : compL vs t tc f ds e2 = some (ys, e3)) : mLc fi vs t tc f env = some (.lst ys, backE e1 e3 vs) := by
  unfold mLc
  rw [h1]
  simp only [h2, h3, if_pos hl]
theorem call_b1 {f : Fn Γ} {env : Env Γ} {b : Nat} {s s' r : Sl Γ} (hb : env[b]? = some s) (ho : nonOwn s = false) (he : f [s] = some (r, [s'])) : mCall 1 f [.brw b] env = some (r, env.set b s') := by
  have g : got (some s) = some s := by cases s <;> first | rfl | cases ho
  simp [mCall, evAs, evA, hb, g, takeA, ho, he, putA]
theorem call_b2 {f : Fn Γ} {env : Env Γ} {b : Nat} {s s' r x x' : Sl Γ} {fm : Ev Γ} (hb : env[b]? = some s) (ho : nonOwn s = false) (hm : fm env = some (x, env)) (he : f [s, x] = some (r, [s', x'])) : mCall 2 f [.brw b, .ex fm] env = some (r, env.set b s') := by
  have g : got (some s) = some s := by cases s <;> first | rfl | cases ho
  simp [mCall, evAs, evA, hb, g, takeA, ho, hm, he, putA]
theorem okD_int (i : Int) : okD (.int i) = true := by simp [okD, D.toPy, SeqAt.shaped, PyData.canLay0, PyData.depth]
theorem okD_bl (b : Bool) : okD (.bl b) = true := by simp [okD, D.toPy, SeqAt.shaped, PyData.canLay0, PyData.depth]
theorem okD_non : okD .non = true := by simp [okD, D.toPy, SeqAt.shaped, PyData.canLay0, PyData.depth]
theorem okD_str {x : Str} (h : PyData.strOk x = true) : okD (.str x) = true := by simp [okD, D.toPy, SeqAt.shaped, PyData.canLay0, PyData.depth, h]
theorem eqD_int (i j : Int) : eqD (.int i) (.int j) = decide (i = j) := by simp [eqD, D.toPy, PyData.eqv]; rw [Bool.beq_eq_decide_eq]
theorem eqD_str (i j : Str) : eqD (.str i) (.str j) = decide (i = j) := by simp [eqD, D.toPy, PyData.eqv]; rw [Bool.beq_eq_decide_eq]
theorem eqD_bl (i j : Bool) : eqD (.bl i) (.bl j) = decide (i = j) := by simp [eqD, D.toPy, PyData.eqv]; rw [Bool.beq_eq_decide_eq]
theorem cut_take (ds : List G.D) (k : Nat) : cutD ds none (some (k : Int)) = ds.take k := by
  unfold cutD
  rw [HT.sIx_nat, HT.sIx_none, List.drop_zero, Nat.sub_zero]
  by_cases h : k ≤ ds.length
  · rw [Nat.min_eq_left h]
  · rw [Nat.min_eq_right (by omega), List.take_of_length_le (by omega), List.take_of_length_le (by omega)]
theorem okD_ints (ns : List Int) : okD (.lst (ns.map G.D.int)) = true := by
  have h : PyData.canLayAll0 (D.toPys (ns.map G.D.int)) = true ∧ PyData.depthAll (D.toPys (ns.map G.D.int)) = 0 := by
    induction ns with
    | nil => exact ⟨rfl, rfl⟩
    | cons n ns ih =>
      rw [List.map_cons]
      unfold D.toPys
      simp [PyData.canLayAll0, PyData.depthAll, D.toPy, PyData.canLay0, PyData.depth, ih.1, ih.2]
  simp [okD, D.toPy, SeqAt.shaped, PyData.canLay0, PyData.depth, h.1, h.2]
theorem any_int (ns : List Int) (n : Int) : ((ns.map G.D.int).any fun z => eqD z (.int n)) = decide (n ∈ ns) := by
  induction ns with
  | nil => rfl
  | cons m ns ih =>
    rw [List.map_cons, List.any_cons, ih, eqD_int]
    by_cases e : m = n
    · simp [e]
    · have e' : ¬ n = m := fun z => e z.symm
      simp [e, e']
/-- the bag of draws -/
def bag (i j : Int) : Sl Γ := .lst [.int i, .int j]
def isBag (s : Sl Γ) : Prop := ∃ i j, s = bag i j
theorem eval_take (i j m : Int) (h0 : 0 < m) (h1 : m < 2 ^ 200) : ∃ r i' j', 0 ≤ r ∧ r < m ∧ f_law_take (Γ := Γ) [bag i j, .dat (.int m)] = some (.dat (.int r), [bag i' j', .dat (.int m)]) := by
  have h1' := h1
  simp at h1'
  by_cases hi : 0 < i
  · refine ⟨i % m, i / m, j, Int.emod_nonneg _ (by omega), Int.emod_lt_of_pos _ h0, ?_⟩
    simp [mFun, mSeq, mIfS, toT, m1, m2, mN, evA, evAs, got, peek, peeks, pEq, pNe, pEqG, pLt, pLe, pGt, pGe, pOrd, pIx, Sl.view, mC, mVar, mRet, mNx, mSet, mDrop, mNotT, mNotE, mNotV, mAndT, mOrT, mAndV, mOrV, mIf, mT, truth, db, di, atI, ixN, okD_int, okD_bl, okD_non, eqD_int, eqD_str, eqD_bl, nonOwn, backE, List.replicate, mRetMv, mQ, evQ, getP, Fd.sl, pTupN, allDat, pN1, pN2, pI, cMod, cMul, cDiv, cPow, pMod, pMul, pDiv, pPow, pAdd, pSub, p0, pInt, pLen, mFrz, f_law_take, b_law_take, bag, hi, h0, mSetIx, h1']
  · refine ⟨((j * 40014 + 7919) % 2147483563 / 7 * 40692) % 2147483399 / 16 % m, i, (j * 40014 + 7919) % 2147483563, Int.emod_nonneg _ (by omega), Int.emod_lt_of_pos _ h0, ?_⟩
    simp [mFun, mSeq, mIfS, toT, m1, m2, mN, evA, evAs, got, peek, peeks, pEq, pNe, pEqG, pLt, pLe, pGt, pGe, pOrd, pIx, Sl.view, mC, mVar, mRet, mNx, mSet, mDrop, mNotT, mNotE, mNotV, mAndT, mOrT, mAndV, mOrV, mIf, mT, truth, db, di, atI, ixN, okD_int, okD_bl, okD_non, eqD_int, eqD_str, eqD_bl, nonOwn, backE, List.replicate, mRetMv, mQ, evQ, getP, Fd.sl, pTupN, allDat, pN1, pN2, pI, cMod, cMul, cDiv, cPow, pMod, pMul, pDiv, pPow, pAdd, pSub, p0, pInt, pLen, mFrz, f_law_take, b_law_take, bag, hi, h0, mSetIx, h1']
theorem call_take {env : Env Γ} {b : Nat} {s : Sl Γ} {m : Int} {fm : Ev Γ} (hb : env[b]? = some s) (hs : isBag s) (hm : fm env = some (.dat (.int m), env)) (h0 : 0 < m) (h1 : m < 2 ^ 200) :
    ∃ r s', 0 ≤ r ∧ r < m ∧ isBag s' ∧ mCall 2 f_law_take [.brw b, .ex fm] env = some (.dat (.int r), env.set b s') := by
  obtain ⟨i, j, rfl⟩ := hs
  obtain ⟨r, i', j', r0, r1, e⟩ := eval_take (Γ := Γ) i j m h0 h1
  exact ⟨r, bag i' j', r0, r1, ⟨i', j', rfl⟩, call_b2 hb rfl hm e⟩
theorem take_c {env : Env Γ} {b : Nat} {s : Sl Γ} (hb : env[b]? = some s) (hs : isBag s) (m : Int) (h0 : 0 < m) (h1 : m < 2 ^ 200) :
    ∃ r s', 0 ≤ r ∧ r < m ∧ isBag s' ∧ mCall 2 f_law_take [.brw b, .ex (mC (.int m))] env = some (.dat (.int r), env.set b s') := call_take hb hs rfl h0 h1
end
end K

/-! M00b: the law's names, numbers, answers, fields -/
namespace K
open PySem L2 G
structure Nm (a : List Nat) : Prop where
  l1 : 1 ≤ a.length
  l8 : a.length ≤ 8
  let_ : ∀ c ∈ a, 97 ≤ c ∧ c ≤ 122
def strD (a : List Nat) : G.D := .str (SX.S a)
def abc : Str := "abcdefghijklmnopqrstuvwxyz"
theorem abc_eq : abc.cps.toList = [97, 98, 99, 100, 101, 102, 103, 104, 105, 106, 107, 108, 109, 110, 111, 112, 113, 114, 115, 116, 117, 118, 119, 120, 121, 122] := by decide +kernel
theorem allStr_map (ys : List Str) : allStr (ys.map G.D.str) = some ys := by
  induction ys with
  | nil => rfl
  | cons n ns ih => rw [List.map_cons]; unfold allStr; rw [ih]; rfl
theorem allStr_codes (ys : List Nat) : allStr (ys.map fun c => strD [c]) = some (ys.map fun c => SX.S [c]) := by
  have := allStr_map (ys.map fun c => SX.S [c])
  rw [List.map_map] at this
  exact this
theorem joinL_one : ∀ ys : List Nat, TL.joinL [] (ys.map fun c => [c]) = ys
  | [] => rfl
  | [c] => rfl
  | c :: d :: r => by
    have ih := joinL_one (d :: r)
    rw [List.map_cons, List.map_cons]
    show [c] ++ ([] ++ TL.joinL [] ([d] :: r.map fun c => [c])) = _
    have ih' : TL.joinL [] ([d] :: r.map fun c => [c]) = d :: r := ih
    rw [ih']
    rfl
theorem lit_0 : ("" : Str) = SX.S [] := by decide +kernel
theorem join_codes (ys : List Nat) : Txt.join "" (ys.map fun c => SX.S [c]) = SX.S ys := by
  rw [lit_0]
  have := SX.join_S [] (ys.map fun c => [c])
  rw [List.map_map] at this
  rw [joinL_one] at this
  exact this
theorem lift_all {α β : Type} {f : α → β} {P : α → Prop} : ∀ ys : List β, (∀ y ∈ ys, ∃ a, y = f a ∧ P a) → ∃ as : List α, ys = as.map f ∧ as.length = ys.length ∧ ∀ a ∈ as, P a
  | [], _ => ⟨[], rfl, rfl, fun _ z => nomatch z⟩
  | y :: ys, h => by
    obtain ⟨a, e, p⟩ := h y List.mem_cons_self
    obtain ⟨as, e', l, q⟩ := lift_all ys fun z hz => h z (List.mem_cons_of_mem _ hz)
    refine ⟨a :: as, by rw [e, e']; rfl, by rw [List.length_cons, List.length_cons, l], fun b hb => ?_⟩
    rcases List.mem_cons.mp hb with z | z
    · rw [z]; exact p
    · exact q b z
theorem iRng_len (n : Int) : ((List.range n.toNat).map fun (k : Nat) => G.D.int (k : Int)).length = n.toNat := by rw [List.length_map, List.length_range]
theorem big {n : Nat} (h : n ≤ 1000) : n ≤ sizeLine := Nat.le_trans h (by decide)
section
variable {Γ : Gam}
theorem letter (r : Int) (h0 : 0 ≤ r) (h1 : r < 26) : pIx (Γ := Γ) (.dat (.str "abcdefghijklmnopqrstuvwxyz")) (.dat (.int r)) = some (.dat (strD [97 + r.toNat])) := by
  show pIx (Γ := Γ) (.dat (.str abc)) (.dat (.int r)) = some (.dat (strD [97 + r.toNat]))
  have hl : abc.length ≤ sizeLine := by decide +kernel
  have len : abc.cps.toList.length = 26 := by rw [abc_eq]; rfl
  unfold pIx
  simp only [Sl.view]
  rw [if_pos hl]
  have ix : atI abc.cps.toList r = some (97 + r.toNat) := by
    unfold atI ixN
    rw [if_pos h0, if_pos (by rw [len]; omega)]
    simp only [Option.bind_some]
    rw [abc_eq]
    have hr : r.toNat < 26 := by omega
    generalize r.toNat = k at hr
    have hh : ∀ k : Fin 26, ([97, 98, 99, 100, 101, 102, 103, 104, 105, 106, 107, 108, 109, 110, 111, 112, 113, 114, 115, 116, 117, 118, 119, 120, 121, 122] : List Nat)[k.1]? = some (97 + k.1) := by decide
    exact hh ⟨k, hr⟩
  rw [ix]
  rfl
theorem rng_eq {f : Ev Γ} {env e1 : Env Γ} {n : Int} (h : f env = some (.dat (.int n), e1)) (h0 : 0 ≤ n) (h1 : n ≤ 1000) : iRng f env = some ((List.range n.toNat).map fun (k : Nat) => G.D.int (k : Int), e1) := by
  unfold iRng
  rw [h]
  exact if_pos ⟨by omega, by omega⟩
/-- a text of letters -/
theorem eval_lname {s : Sl Γ} (hs : isBag s) : ∃ a s', Nm a ∧ isBag s' ∧ f_law_name (Γ := Γ) [s] = some (.dat (strD a), [s']) := by
  obtain ⟨r, s1, r0, r1, b1, e1⟩ := take_c (Γ := Γ) (env := [s, .none, .none]) (b := 0) rfl hs 8 (by decide) (by decide)
  have q1 : mSet 1 (m2 pAdd (.ex (mC (.int 1))) (.ex (mCall 2 f_law_take [.brw 0, .ex (mC (.int 8))]))) [s, .none, .none] = some (.nx, [s1, .dat (.int (1 + r)), .none]) := by
    refine (set_eq (m2_ex rfl e1 rfl) (by simp)).trans ?_
    rfl
  obtain ⟨ys, e, k1, k2, k3, k4⟩ := compL_inv (Γ := Γ) (vs := [2]) (t := gNm 2) (f := m2 pIx (.ex (mC (.str "abcdefghijklmnopqrstuvwxyz"))) (.ex (mCall 2 f_law_take [.brw 0, .ex (mC (.int 26))]))) (fun env => ∃ s, isBag s ∧ env = [s, .dat (.int (1 + r)), .none]) (fun y => ∃ c, y = strD [c] ∧ 97 ≤ c ∧ c ≤ 122)
    ((List.range (1 + r).toNat).map fun (k : Nat) => G.D.int (k : Int)) (fun d _ env ⟨s, hs, he⟩ => by
      subst he
      obtain ⟨c, s2, c0, c1, b2, e2⟩ := take_c (Γ := Γ) (env := [s, .dat (.int (1 + r)), .dat d]) (b := 0) rfl hs 26 (by decide) (by decide)
      exact ⟨[s, .dat (.int (1 + r)), .dat d], strD [97 + c.toNat], [s2, .dat (.int (1 + r)), .dat d], [s2, .dat (.int (1 + r)), .none], rfl, m2_ex rfl e2 (letter c c0 c1), rfl, ⟨s2, b2, rfl⟩, _, rfl, by omega, by omega⟩) [s1, .dat (.int (1 + r)), .none] ⟨s1, b1, rfl⟩
  obtain ⟨s2, b2, rfl⟩ := k2
  obtain ⟨as, g1, g2, g3⟩ := lift_all (f := fun c => strD [c]) (P := fun c => 97 ≤ c ∧ c ≤ 122) ys k4
  rw [iRng_len] at k3
  have lc := lc_eq (rng_eq (f := mVar 1) (env := [s1, .dat (.int (1 + r)), .none]) (n := 1 + r) rfl (by omega) (by omega)) (by rw [iRng_len]; exact big (by omega)) (vs := [2]) (e2 := [s1, .dat (.int (1 + r)), .none]) rfl k1
  refine ⟨as, s2, ⟨by omega, by omega, g3⟩, b2, ?_⟩
  unfold f_law_name b_law_name
  refine (fun_rt (e' := [s2, .dat (.int (1 + r)), .none]) rfl rfl ?_).trans rfl
  refine (seq_nx q1).trans (ret_eq ?_)
  have hj : pJoin (Γ := Γ) "" (.lst ys) = some (.dat (strD as)) := by
    unfold pJoin
    simp only [Sl.view]
    rw [g1, allStr_codes]
    have hz : ((as.map fun c => SX.S [c]).map (·.length)).sum + (as.map fun c => SX.S [c]).length * ("" : Str).length ≤ 16777216 := by
      have z0 : ("" : Str).length = 0 := by decide
      rw [z0, Nat.mul_zero, Nat.add_zero]
      have : ∀ l : List Nat, ((l.map fun c => SX.S [c]).map (·.length)).sum = l.length := by
        intro l
        induction l with
        | nil => rfl
        | cons c l ih => rw [List.map_cons, List.map_cons, List.sum_cons, ih, SX.S_len, List.length_cons]; simp; omega
      rw [this]; omega
    simp only [if_pos hz, join_codes]
    rfl
  simp only [mM1, mC, evA, lc, Option.map_some, peek, hj]
  rfl
theorem call_lname {env : Env Γ} {b : Nat} {s : Sl Γ} (hb : env[b]? = some s) (hs : isBag s) : ∃ a s', Nm a ∧ isBag s' ∧ mCall 1 f_law_name [.brw b] env = some (.dat (strD a), env.set b s') := by
  obtain ⟨a, s', h1, h2, e⟩ := eval_lname (Γ := Γ) hs
  obtain ⟨i, j, rfl⟩ := hs
  exact ⟨a, s', h1, h2, call_b1 hb rfl e⟩
theorem eval_names {s : Sl Γ} (hs : isBag s) : ∃ (ss : List (List Nat)) (s' : Sl Γ), ss.length ≤ 8 ∧ (∀ a ∈ ss, Nm a) ∧ isBag s' ∧ f_law_names (Γ := Γ) [s, .dat (.int 8)] = some (.lst (ss.map strD), [s', .dat (.int 8)]) := by
  obtain ⟨r, s1, r0, r1, b1, e1⟩ := call_take (Γ := Γ) (env := [s, .dat (.int 8), .none, .none]) (b := 0) (fm := m2 pAdd (.brw 1) (.ex (mC (.int 1)))) (m := 9) rfl hs rfl (by decide) (by decide)
  obtain ⟨ys, e, k1, k2, k3, k4⟩ := compL_inv (Γ := Γ) (vs := [3]) (t := gNm 3) (f := mFrz (mCall 1 f_law_name [.brw 0])) (fun env => ∃ s, isBag s ∧ env = [s, .dat (.int 8), .none, .none]) (fun y => ∃ a, y = strD a ∧ Nm a)
    ((List.range r.toNat).map fun (k : Nat) => G.D.int (k : Int)) (fun d _ env ⟨s, hs, he⟩ => by
      subst he
      obtain ⟨a, s2, ha, b2, e2⟩ := call_lname (Γ := Γ) (env := [s, .dat (.int 8), .none, .dat d]) (b := 0) rfl hs
      exact ⟨[s, .dat (.int 8), .none, .dat d], strD a, [s2, .dat (.int 8), .none, .dat d], [s2, .dat (.int 8), .none, .none], rfl, frz_dat e2, rfl, ⟨s2, b2, rfl⟩, _, rfl, ha⟩) [s1, .dat (.int 8), .none, .none] ⟨s1, b1, rfl⟩
  obtain ⟨s2, b2, rfl⟩ := k2
  obtain ⟨as, g1, g2, g3⟩ := lift_all (f := strD) (P := Nm) ys k4
  rw [iRng_len] at k3
  have lc := lc_eq (rng_eq e1 (by omega) (by omega)) (by rw [iRng_len]; exact big (by omega)) (vs := [3]) (e2 := [s1, .dat (.int 8), .none, .none]) rfl k1
  have q1 : mSet 2 (mLc (iRng (mCall 2 f_law_take [.brw 0, .ex (m2 pAdd (.brw 1) (.ex (mC (.int 1))))])) [3] (gNm 3) (fun env => some (true, env)) (mFrz (mCall 1 f_law_name [.brw 0]))) [s, .dat (.int 8), .none, .none] = some (.nx, [s2, .dat (.int 8), .lst ys, .none]) := (set_eq lc (by simp [backE])).trans rfl
  by_cases hl : 1 < ys.length
  · obtain ⟨t, s3, t0, t1, b3, e3⟩ := take_c (Γ := Γ) (env := [s2, .dat (.int 8), .lst ys, .none]) (b := 0) rfl b2 3 (by decide) (by decide)
    have hl' : (1 : Int) < (ys.length : Int) := by omega
    have c : mAndT (toT (m2 pGt (.ex (mN (pN1 pLen) [.brw 2])) (.ex (mC (.int 1))))) (toT (m2 pEq (.ex (mCall 2 f_law_take [.brw 0, .ex (mC (.int 3))])) (.ex (mC (.int 0))))) [s2, .dat (.int 8), .lst ys, .none] = some (decide (t = 0), [s3, .dat (.int 8), .lst ys, .none]) := by
      simp [mFun, mSeq, mIfS, toT, m1, m2, mN, evA, evAs, got, peek, peeks, pEq, pNe, pEqG, pLt, pLe, pGt, pGe, pOrd, pIx, Sl.view, mC, mVar, mRet, mNx, mSet, mDrop, mNotT, mNotE, mNotV, mAndT, mOrT, mAndV, mOrV, mIf, mT, truth, db, di, atI, ixN, okD_int, okD_bl, okD_non, eqD_int, eqD_str, eqD_bl, nonOwn, backE, List.replicate, mRetMv, mQ, evQ, getP, Fd.sl, pTupN, allDat, pN1, pN2, pI, cMod, cMul, cDiv, cPow, pMod, pMul, pDiv, pPow, pAdd, pSub, p0, pInt, pLen, mFrz, hl', e3]
    by_cases ht : t = 0
    · rw [decide_eq_true ht] at c
      obtain ⟨a, as', rfl⟩ : ∃ a as', as = a :: as' := by
        cases as with
        | nil => rw [g1] at hl; simp at hl
        | cons a as' => exact ⟨a, as', rfl⟩
      have hne : (a :: as') ≠ [] := by simp
      have hlast : ys[ys.length - 1]? = some (strD ((a :: as').getLast hne)) := by
        rw [g1, List.length_map, List.getElem?_map, ← List.getLast?_eq_getElem?, List.getLast?_eq_some_getLast hne]
        rfl
      refine ⟨(a :: as').getLast hne :: as', s3, by simp at g2 ⊢; omega, fun z hz => ?_, b3, ?_⟩
      · rcases List.mem_cons.mp hz with q | q
        · rw [q]; exact g3 _ (List.getLast_mem hne)
        · exact g3 z (List.mem_cons_of_mem _ q)
      · unfold f_law_names b_law_names
        refine (fun_rt (e' := [s3, .dat (.int 8), .none, .none]) rfl rfl ?_).trans rfl
        refine (seq_nx q1).trans ?_
        refine (seq_nx (e1 := [s3, .dat (.int 8), .lst (((a :: as').getLast hne :: as').map strD), .none]) ((ifs_t c).trans ?_)).trans rfl
        have ix : m2 pIx (.brw 2) (.ex (m1 pNeg (.ex (mC (.int 1))))) [s3, .dat (.int 8), .lst ys, .none] = some (.dat (strD ((a :: as').getLast hne)), [s3, .dat (.int 8), .lst ys, .none]) := by
          have h2 : ¬ (0 : Int) ≤ -1 := by decide
          have h3 : -(ys.length : Int) ≤ -1 := by omega
          have h4 : ((-1 : Int) + (ys.length : Int)).toNat = ys.length - 1 := by omega
          have hq : pIx (Γ := Γ) (.lst ys) (.dat (.int (-1))) = some (.dat (strD ((a :: as').getLast hne))) := by
            unfold pIx
            simp only [Sl.view]
            unfold atI ixN
            rw [if_neg h2, if_pos h3, h4, Option.bind_some, hlast]
            rfl
          simp only [m2, evA, m1, mC, got, List.getElem?_cons_succ, List.getElem?_cons_zero, Option.map_some, peek, pNeg, Sl.view, di, hq]
        simp only [mSetIx, ix, mC, List.getElem?_cons_succ, List.getElem?_cons_zero]
        have : ixN ys.length 0 = some 0 := by unfold ixN; rw [if_pos (by decide), if_pos (by omega)]; rfl
        rw [this, g1]
        rfl
    · rw [decide_eq_false ht] at c
      refine ⟨as, s3, by omega, g3, b3, ?_⟩
      unfold f_law_names b_law_names
      refine (fun_rt (e' := [s3, .dat (.int 8), .none, .none]) rfl rfl ?_).trans rfl
      refine (seq_nx q1).trans ?_
      refine (seq_nx (ifs_f c)).trans ?_
      rw [g1]
      rfl
  · have hl' : ¬ (1 : Int) < (ys.length : Int) := by omega
    have c : mAndT (toT (m2 pGt (.ex (mN (pN1 pLen) [.brw 2])) (.ex (mC (.int 1))))) (toT (m2 pEq (.ex (mCall 2 f_law_take [.brw 0, .ex (mC (.int 3))])) (.ex (mC (.int 0))))) [s2, .dat (.int 8), .lst ys, .none] = some (false, [s2, .dat (.int 8), .lst ys, .none]) := by
      simp [mFun, mSeq, mIfS, toT, m1, m2, mN, evA, evAs, got, peek, peeks, pEq, pNe, pEqG, pLt, pLe, pGt, pGe, pOrd, pIx, Sl.view, mC, mVar, mRet, mNx, mSet, mDrop, mNotT, mNotE, mNotV, mAndT, mOrT, mAndV, mOrV, mIf, mT, truth, db, di, atI, ixN, okD_int, okD_bl, okD_non, eqD_int, eqD_str, eqD_bl, nonOwn, backE, List.replicate, mRetMv, mQ, evQ, getP, Fd.sl, pTupN, allDat, pN1, pN2, pI, cMod, cMul, cDiv, cPow, pMod, pMul, pDiv, pPow, pAdd, pSub, p0, pInt, pLen, mFrz, hl']
    refine ⟨as, s2, by omega, g3, b2, ?_⟩
    unfold f_law_names b_law_names
    refine (fun_rt (e' := [s2, .dat (.int 8), .none, .none]) rfl rfl ?_).trans rfl
    refine (seq_nx q1).trans ?_
    refine (seq_nx (ifs_f c)).trans ?_
    rw [g1]
    rfl
end
end K

/-! M00c: numbers, answers, fields, the bag -/
namespace K
open PySem L2 G
abbrev TOP : Int := 1000000000000000000000000000000
def isNo (n : Int) : Prop := 1 ≤ n ∧ n ≤ TOP
/-- the fields of a letter -/
structure Fs where
  n : Int
  p : List Nat
  h : List Nat
  as : List Int
  ss : List (List Nat)
  ws : List (List Nat)
structure Fs.ok (F : Fs) : Prop where
  n : isNo F.n
  p : Nm F.p
  h : Nm F.h
  as : ∀ a ∈ F.as, isNo a
  nd : F.as.Nodup
  nn : F.n ∉ F.as
  la : F.as.length ≤ 8
  ss : ∀ a ∈ F.ss, Nm a
  ls : F.ss.length ≤ 8
  ws : ∀ a ∈ F.ws, Nm a
  lw : F.ws.length ≤ 40
def Fs.D (F : Fs) : List G.D := [.int F.n, strD F.p, strD F.h, .lst (F.as.map .int), .lst (F.ss.map strD), .lst (F.ws.map strD)]
section
variable {Γ : Gam}
theorem lst_N {env e1 : Env Γ} {as : List (AE Γ)} {xs : List (Ag Γ)} {ds : List G.D} (h1 : evAs as env = some (xs, e1)) (h2 : peeks xs e1 = some (ds.map .dat)) (hl : ds.length ≤ sizeLine) : mN pLstN as env = some (.lst ds, e1) := by
  have ha : ∀ l : List G.D, allDat (Γ := Γ) (l.map .dat) = some l := by
    intro l
    induction l with
    | nil => rfl
    | cons d l ih => rw [List.map_cons]; unfold allDat; rw [ih]; rfl
  unfold mN
  rw [h1]
  simp only [h2, pLstN, ha, if_pos hl, Option.map_some]
theorem ix_c {ds : List G.D} {r : Int} (h0 : 0 ≤ r) (h1 : r < ds.length) : ∃ d, ds[r.toNat]? = some d ∧ pIx (Γ := Γ) (.lst ds) (.dat (.int r)) = some (.dat d) := by
  have hr : r.toNat < ds.length := by omega
  refine ⟨ds[r.toNat], by simp [hr], ?_⟩
  unfold pIx atI ixN
  simp only [Sl.view]
  rw [if_pos h0, if_pos h1]
  simp [hr]
theorem eval_number {s : Sl Γ} (hs : isBag s) : ∃ n s', isNo n ∧ isBag s' ∧ f_law_number (Γ := Γ) [s] = some (.dat (.int n), [s']) := by
  obtain ⟨r, s1, r0, r1, b1, e1⟩ := take_c (Γ := Γ) (env := [s]) (b := 0) rfl hs 900 (by decide) (by decide)
  obtain ⟨t, s2, t0, t1, b2, e2⟩ := call_take (Γ := Γ) (env := [s1]) (b := 0) (fm := m2 pPow (.ex (mC (.int 10))) (.ex (mC (.int 30)))) (m := TOP) rfl b1 rfl (by decide) (by decide)
  obtain ⟨u, s3, u0, u1, b3, e3⟩ := take_c (Γ := Γ) (env := [s2]) (b := 0) rfl b2 4 (by decide) (by decide)
  have l1 : mN pLstN [.ex (mC (.int 1)), .ex (m2 pPow (.ex (mC (.int 10))) (.ex (mC (.int 30)))), .ex (mFrz (m2 pAdd (.ex (mC (.int 2))) (.ex (mCall 2 f_law_take [.brw 0, .ex (mC (.int 900))])))), .ex (mFrz (m2 pAdd (.ex (mC (.int 1))) (.ex (mCall 2 f_law_take [.brw 0, .ex (m2 pPow (.ex (mC (.int 10))) (.ex (mC (.int 30))))]))))] [s] = some (.lst [.int 1, .int TOP, .int (2 + r), .int (1 + t)], [s2]) := by
    have z1 : mFrz (m2 pAdd (.ex (mC (.int 2))) (.ex (mCall 2 f_law_take [.brw 0, .ex (mC (.int 900))]))) [s] = some (.dat (.int (2 + r)), [s1]) := frz_dat (m2_ex rfl e1 rfl)
    have z2 : mFrz (m2 pAdd (.ex (mC (.int 1))) (.ex (mCall 2 f_law_take [.brw 0, .ex (m2 pPow (.ex (mC (.int 10))) (.ex (mC (.int 30))))]))) [s1] = some (.dat (.int (1 + t)), [s2]) := frz_dat (m2_ex rfl e2 rfl)
    have z0 : m2 pPow (.ex (mC (.int 10))) (.ex (mC (.int 30))) [s] = some (.dat (.int TOP), [s]) := rfl
    refine lst_N (xs := [.val (.dat (.int 1)), .val (.dat (.int TOP)), .val (.dat (.int (2 + r))), .val (.dat (.int (1 + t)))]) ?_ rfl (big (Nat.le_of_ble_eq_true rfl))
    simp only [evAs, evA, mC, z0, z1, z2, Option.map_some]
  obtain ⟨d, hd, hx⟩ := ix_c (Γ := Γ) (ds := [.int 1, .int TOP, .int (2 + r), .int (1 + t)]) u0 (by simpa using u1)
  have hn : ∃ n, d = .int n ∧ isNo n := by
    have hu : u.toNat < 4 := by omega
    generalize u.toNat = k at hu hd
    match k, hu with
    | 0, _ => cases hd; exact ⟨1, rfl, by unfold isNo TOP; omega⟩
    | 1, _ => cases hd; exact ⟨TOP, rfl, by unfold isNo TOP; omega⟩
    | 2, _ => cases hd; exact ⟨_, rfl, by unfold isNo TOP; omega⟩
    | 3, _ => cases hd; exact ⟨_, rfl, by unfold isNo TOP; unfold TOP at t1; omega⟩
  obtain ⟨n, rfl, hn⟩ := hn
  refine ⟨n, s3, hn, b3, ?_⟩
  unfold f_law_number b_law_number
  exact (fun_rt (e' := [s3]) rfl rfl (ret_eq (m2_ex l1 e3 hx))).trans rfl
theorem call_number {env : Env Γ} {b : Nat} {s : Sl Γ} (hb : env[b]? = some s) (hs : isBag s) : ∃ n s', isNo n ∧ isBag s' ∧ mCall 1 f_law_number [.brw b] env = some (.dat (.int n), env.set b s') := by
  obtain ⟨a, s', h1, h2, e⟩ := eval_number (Γ := Γ) hs
  obtain ⟨i, j, rfl⟩ := hs
  exact ⟨a, s', h1, h2, call_b1 hb rfl e⟩
/-- [c0, c1, c2, c3, take m][take 5] -/
theorem size_of {env : Env Γ} {s : Sl Γ} {b : Nat} (hb : env[b]? = some s) (hs : isBag s) (c0 c1 c2 c3 m : Int) (h0 : 0 < m) (hm : m < 1000) (k : Int) (q0 : 0 ≤ c0 ∧ c0 ≤ k) (q1 : 0 ≤ c1 ∧ c1 ≤ k) (q2 : 0 ≤ c2 ∧ c2 ≤ k) (q3 : 0 ≤ c3 ∧ c3 ≤ k) (q4 : m ≤ k + 1) :
    ∃ n s', 0 ≤ n ∧ n ≤ k ∧ isBag s' ∧ m2 pIx (.ex (mN pLstN [.ex (mC (.int c0)), .ex (mC (.int c1)), .ex (mC (.int c2)), .ex (mC (.int c3)), .ex (mFrz (mCall 2 f_law_take [.brw b, .ex (mC (.int m))]))])) (.ex (mCall 2 f_law_take [.brw b, .ex (mC (.int 5))])) env = some (.dat (.int n), env.set b s') := by
  obtain ⟨r, s1, r0, r1, b1, e1⟩ := take_c (Γ := Γ) hb hs m h0 (by omega)
  have lt : b < env.length := (List.getElem?_eq_some_iff.mp hb).1
  obtain ⟨u, s3, u0, u1, b3, e3⟩ := take_c (Γ := Γ) (env := env.set b s1) (b := b) (by simp [lt]) b1 5 (by decide) (by decide)
  rw [List.set_set] at e3
  have l1 : mN pLstN [.ex (mC (.int c0)), .ex (mC (.int c1)), .ex (mC (.int c2)), .ex (mC (.int c3)), .ex (mFrz (mCall 2 f_law_take [.brw b, .ex (mC (.int m))]))] env = some (.lst [.int c0, .int c1, .int c2, .int c3, .int r], env.set b s1) := by
    refine lst_N (xs := [.val (.dat (.int c0)), .val (.dat (.int c1)), .val (.dat (.int c2)), .val (.dat (.int c3)), .val (.dat (.int r))]) ?_ rfl (big (Nat.le_of_ble_eq_true rfl))
    simp only [evAs, evA, mC, frz_dat e1, Option.map_some]
  obtain ⟨d, hd, hx⟩ := ix_c (Γ := Γ) (ds := [.int c0, .int c1, .int c2, .int c3, .int r]) u0 (by simpa using u1)
  have hn : ∃ n, d = .int n ∧ 0 ≤ n ∧ n ≤ k := by
    have hu : u.toNat < 5 := by omega
    generalize u.toNat = k at hu hd
    match k, hu with
    | 0, _ => cases hd; exact ⟨_, rfl, q0⟩
    | 1, _ => cases hd; exact ⟨_, rfl, q1⟩
    | 2, _ => cases hd; exact ⟨_, rfl, q2⟩
    | 3, _ => cases hd; exact ⟨_, rfl, q3⟩
    | 4, _ => cases hd; exact ⟨_, rfl, by omega, by omega⟩
  obtain ⟨n, rfl, hn⟩ := hn
  exact ⟨n, s3, hn.1, hn.2, b3, m2_ex l1 e3 hx⟩
/-- what the loop of the answers keeps -/
structure InA (n : Int) (k : Nat) (rows : List Int) : Prop where
  as : ∀ a ∈ rows, isNo a
  nd : rows.Nodup
  nn : n ∉ rows
  la : rows.length + k ≤ 8
theorem eval_answers {s : Sl Γ} (hs : isBag s) (n : Int) : ∃ (as : List Int) (s' : Sl Γ), InA n 0 as ∧ isBag s' ∧ f_law_answers (Γ := Γ) [s, .dat (.int n)] = some (.lst (as.map .int), [s', .dat (.int n)]) := by
  obtain ⟨m, s1, m0, m1', b1, e1⟩ := size_of (Γ := Γ) (env := [s, .dat (.int n), .lst [], .dat (.int n), .none]) (b := 0) rfl hs 0 1 2 8 9 (by decide) (by decide) 8 (by decide) (by decide) (by decide) (by decide) (by decide)
  have q0 : mPar 2 3 (mN pLstN []) (mVar 1) ([s, .dat (.int n), .none, .none, .none] : Env Γ) = some (.nx, [s, .dat (.int n), .lst [], .dat (.int n), .none]) := rfl
  obtain ⟨e, k1, rows, s2, last, k, b2, he, iv⟩ := forL_run (Γ := Γ) (t := gNm 4) (g := mSeq (mSet 3 (m2 pAdd (.ex (m2 pMod (.ex (mN (pN1 pInt) [.ex (m2 pAdd (.brw 3) (.ex (mCall 2 f_law_take [.brw 0, .ex (mC (.int 1000))])))])) (.ex (m2 pPow (.ex (mC (.int 10))) (.ex (mC (.int 30))))))) (.ex (mC (.int 1)))))
    (mIfS (mAndT (toT (m2 pNotIn (.brw 3) (.brw 2))) (toT (m2 pNe (.brw 3) (.brw 1)))) (mDrop (mMut 2 uAppend [.ex (mVar 3)])) (mNx)))
    (fun ds env => ∃ (rows : List Int) (s : Sl Γ) (last : Int) (k : Sl Γ), isBag s ∧ env = [s, .dat (.int n), .lst (rows.map .int), .dat (.int last), k] ∧ InA n ds.length rows) (fun d ds env ⟨rows, s, last, k, hs, he, iv⟩ => by
      subst he
      obtain ⟨r, s2, r0, r1, b2, e2⟩ := take_c (Γ := Γ) (env := [s, .dat (.int n), .lst (rows.map .int), .dat (.int last), .dat d]) (b := 0) rfl hs 1000 (by decide) (by decide)
      have ll := iv.la
      rw [List.length_cons] at ll
      have st : mSet 3 (m2 pAdd (.ex (m2 pMod (.ex (mN (pN1 pInt) [.ex (m2 pAdd (.brw 3) (.ex (mCall 2 f_law_take [.brw 0, .ex (mC (.int 1000))])))])) (.ex (m2 pPow (.ex (mC (.int 10))) (.ex (mC (.int 30))))))) (.ex (mC (.int 1)))) [s, .dat (.int n), .lst (rows.map .int), .dat (.int last), .dat d] = some (.nx, [s2, .dat (.int n), .lst (rows.map .int), .dat (.int ((last + r) % TOP + 1)), .dat d]) := by
        simp [mFun, mSeq, mIfS, toT, m1, m2, mN, evA, evAs, got, peek, peeks, pEq, pNe, pEqG, pLt, pLe, pGt, pGe, pOrd, pIx, Sl.view, mC, mVar, mRet, mNx, mSet, mDrop, mNotT, mNotE, mNotV, mAndT, mOrT, mAndV, mOrV, mIf, mT, truth, db, di, atI, ixN, okD_int, okD_bl, okD_non, eqD_int, eqD_str, eqD_bl, nonOwn, backE, List.replicate, mRetMv, mQ, evQ, getP, Fd.sl, pTupN, allDat, pN1, pN2, pI, cMod, cMul, cDiv, cPow, pMod, pMul, pDiv, pPow, pAdd, pSub, p0, pInt, pLen, mFrz, e2, TOP]
      have lo : 0 ≤ (last + r) % TOP := Int.emod_nonneg _ (by decide)
      have hi : (last + r) % TOP < TOP := Int.emod_lt_of_pos _ (by decide)
      have hx : isNo ((last + r) % TOP + 1) := ⟨by omega, by omega⟩
      generalize (last + r) % TOP + 1 = x at st hx
      have c : mAndT (toT (m2 pNotIn (.brw 3) (.brw 2))) (toT (m2 pNe (.brw 3) (.brw 1))) ([s2, .dat (.int n), .lst (rows.map .int), .dat (.int x), .dat d] : Env Γ) = some (decide (x ∉ rows ∧ x ≠ n), [s2, .dat (.int n), .lst (rows.map .int), .dat (.int x), .dat d]) := by
        have a1 := any_int rows x
        have a2 := okD_ints rows
        by_cases h1 : x ∈ rows
        · rw [decide_eq_true h1] at a1
          simp [mFun, mSeq, mIfS, toT, m1, m2, mN, evA, evAs, got, peek, peeks, pEq, pNe, pEqG, pLt, pLe, pGt, pGe, pOrd, pIx, Sl.view, mC, mVar, mRet, mNx, mSet, mDrop, mNotT, mNotE, mNotV, mAndT, mOrT, mAndV, mOrV, mIf, mT, truth, db, di, atI, ixN, okD_int, okD_bl, okD_non, eqD_int, eqD_str, eqD_bl, nonOwn, backE, List.replicate, mRetMv, mQ, evQ, getP, Fd.sl, pTupN, allDat, pN1, pN2, pI, cMod, cMul, cDiv, cPow, pMod, pMul, pDiv, pPow, pAdd, pSub, p0, pInt, pLen, mFrz, pNotIn, pInG, a2, a1, h1]
        · rw [decide_eq_false h1] at a1
          by_cases h2 : x = n
          · subst h2
            simp [mFun, mSeq, mIfS, toT, m1, m2, mN, evA, evAs, got, peek, peeks, pEq, pNe, pEqG, pLt, pLe, pGt, pGe, pOrd, pIx, Sl.view, mC, mVar, mRet, mNx, mSet, mDrop, mNotT, mNotE, mNotV, mAndT, mOrT, mAndV, mOrV, mIf, mT, truth, db, di, atI, ixN, okD_int, okD_bl, okD_non, eqD_int, eqD_str, eqD_bl, nonOwn, backE, List.replicate, mRetMv, mQ, evQ, getP, Fd.sl, pTupN, allDat, pN1, pN2, pI, cMod, cMul, cDiv, cPow, pMod, pMul, pDiv, pPow, pAdd, pSub, p0, pInt, pLen, mFrz, pNotIn, pInG, a2, a1, h1]
          · simp [mFun, mSeq, mIfS, toT, m1, m2, mN, evA, evAs, got, peek, peeks, pEq, pNe, pEqG, pLt, pLe, pGt, pGe, pOrd, pIx, Sl.view, mC, mVar, mRet, mNx, mSet, mDrop, mNotT, mNotE, mNotV, mAndT, mOrT, mAndV, mOrV, mIf, mT, truth, db, di, atI, ixN, okD_int, okD_bl, okD_non, eqD_int, eqD_str, eqD_bl, nonOwn, backE, List.replicate, mRetMv, mQ, evQ, getP, Fd.sl, pTupN, allDat, pN1, pN2, pI, cMod, cMul, cDiv, cPow, pMod, pMul, pDiv, pPow, pAdd, pSub, p0, pInt, pLen, mFrz, pNotIn, pInG, a2, a1, h1, h2]
      by_cases hc : x ∉ rows ∧ x ≠ n
      · rw [decide_eq_true hc] at c
        refine ⟨[s, .dat (.int n), .lst (rows.map .int), .dat (.int last), .dat d], [s2, .dat (.int n), .lst ((rows ++ [x]).map .int), .dat (.int x), .dat d], rfl, (seq_nx st).trans ((ifs_t c).trans ?_), rows ++ [x], s2, x, .dat d, b2, rfl, ?_⟩
        · have hz : (rows.map G.D.int).length < sizeLine := by rw [List.length_map]; exact Nat.lt_of_lt_of_le (show rows.length < 1000 by omega) (by decide)
          have u1 : uAppend (Γ := Γ) (rows.map .int) [.dat (.int x)] = some (.non, (rows ++ [x]).map .int) := by
            show (if (rows.map G.D.int).length < sizeLine then some (G.D.non, rows.map G.D.int ++ [.int x]) else none) = _
            rw [if_pos hz, List.map_append]
            rfl
          simp only [mDrop, mMut, List.getElem?_cons_succ, List.getElem?_cons_zero, evAs, evA, mVar, Option.map_some, peeks, peek, u1]
          rfl
        · refine ⟨fun a ha => ?_, ?_, ?_, by rw [List.length_append, List.length_singleton]; omega⟩
          · rcases List.mem_append.mp ha with z | z
            · exact iv.as a z
            · rw [List.mem_singleton.mp z]; exact hx
          · rw [List.nodup_append]
            refine ⟨iv.nd, by simp, fun a ha b hb e => ?_⟩
            rw [List.mem_singleton.mp hb] at e
            exact hc.1 (e ▸ ha)
          · rw [List.mem_append, List.mem_singleton]
            exact fun z => z.elim iv.nn fun z => hc.2 z.symm
      · rw [decide_eq_false hc] at c
        exact ⟨[s, .dat (.int n), .lst (rows.map .int), .dat (.int last), .dat d], [s2, .dat (.int n), .lst (rows.map .int), .dat (.int x), .dat d], rfl, (seq_nx st).trans ((ifs_f c).trans rfl), rows, s2, x, .dat d, b2, rfl, iv.as, iv.nd, iv.nn, by omega⟩)
    ((List.range m.toNat).map fun (k : Nat) => G.D.int (k : Int)) [s1, .dat (.int n), .lst [], .dat (.int n), .none] ⟨[], s1, n, .none, b1, rfl, fun _ z => (nomatch z), .nil, fun z => (nomatch z), by rw [iRng_len]; simp; omega⟩
  subst he
  refine ⟨rows, s2, iv, b2, ?_⟩
  unfold f_law_answers b_law_answers
  refine (fun_rt (e' := [s2, .dat (.int n), .none, .dat (.int last), k]) rfl rfl ?_).trans rfl
  refine (seq_nx q0).trans ?_
  refine (seq_nx (for_eq (rng_eq e1 (by omega) (by omega)) k1)).trans rfl
end
end K

/-! M00d: fields, the bag of a script -/
namespace K
open PySem L2 G
section
variable {Γ : Gam}
theorem call_answers {env : Env Γ} {s : Sl Γ} {n : Int} (hb : env[0]? = some s) (h1 : env[1]? = some (.dat (.int n))) (hs : isBag s) : ∃ (as : List Int) (s' : Sl Γ), InA n 0 as ∧ isBag s' ∧ mCall 2 f_law_answers [.brw 0, .brw 1] env = some (.lst (as.map .int), env.set 0 s') := by
  obtain ⟨as, s', h2, h3, e⟩ := eval_answers (Γ := Γ) hs n
  obtain ⟨i, j, rfl⟩ := hs
  refine ⟨as, s', h2, h3, ?_⟩
  have o : nonOwn (Γ := Γ) (bag i j) = false := rfl
  have g : got (some (bag (Γ := Γ) i j)) = some (bag i j) := rfl
  have h1' : (env.set 0 .none)[1]? = some (.dat (.int n)) := by rw [List.getElem?_set_ne (by decide)]; exact h1
  have g2 : got (some (Sl.dat (Γ := Γ) (.int n))) = some (.dat (.int n)) := rfl
  have o2 : nonOwn (Γ := Γ) (.dat (.int n)) = true := rfl
  simp only [mCall, evAs, evA, hb, g, h1, g2, Option.map_some, takeA, o, h1', o2, e, putA, List.set_set, if_true]
  simp [e, putA]
theorem eval_fields {s : Sl Γ} (hs : isBag s) : ∃ (F : Fs) (s' : Sl Γ), F.ok ∧ isBag s' ∧ f_law_fields (Γ := Γ) [s] = some (.lst F.D, [s']) := by
  obtain ⟨n, s1, hn, b1, e1⟩ := call_number (Γ := Γ) (env := [s, .none, .none, .none, .none]) (b := 0) rfl hs
  obtain ⟨m, s2, m0, m1', b2, e2⟩ := size_of (Γ := Γ) (env := [s1, .dat (.int n), .none, .none, .none]) (b := 0) rfl b1 0 1 8 40 12 (by decide) (by decide) 40 (by decide) (by decide) (by decide) (by decide) (by decide)
  obtain ⟨ys, e, k1, k2, k3, k4⟩ := compL_inv (Γ := Γ) (vs := [4]) (t := gNm 4) (f := mFrz (mCall 1 f_law_name [.brw 0])) (fun env => ∃ s, isBag s ∧ env = [s, .dat (.int n), .dat (.int m), .none, .none]) (fun y => ∃ a, y = strD a ∧ Nm a)
    ((List.range m.toNat).map fun (k : Nat) => G.D.int (k : Int)) (fun d _ env ⟨s, hs, he⟩ => by
      subst he
      obtain ⟨a, s2, ha, b2, e2⟩ := call_lname (Γ := Γ) (env := [s, .dat (.int n), .dat (.int m), .none, .dat d]) (b := 0) rfl hs
      exact ⟨[s, .dat (.int n), .dat (.int m), .none, .dat d], strD a, [s2, .dat (.int n), .dat (.int m), .none, .dat d], [s2, .dat (.int n), .dat (.int m), .none, .none], rfl, frz_dat e2, rfl, ⟨s2, b2, rfl⟩, _, rfl, ha⟩) [s2, .dat (.int n), .dat (.int m), .none, .none] ⟨s2, b2, rfl⟩
  obtain ⟨s3, b3, rfl⟩ := k2
  obtain ⟨ws, g1, g2, g3⟩ := lift_all (f := strD) (P := Nm) ys k4
  rw [iRng_len] at k3
  have lc := lc_eq (rng_eq (f := mVar 2) (env := [s2, .dat (.int n), .dat (.int m), .none, .none]) (n := m) rfl (by omega) (by omega)) (by rw [iRng_len]; exact big (by omega)) (vs := [4]) (e2 := [s2, .dat (.int n), .dat (.int m), .none, .none]) rfl k1
  obtain ⟨p, s4, hp, b4, e4⟩ := call_lname (Γ := Γ) (env := [s3, .dat (.int n), .dat (.int m), .lst ys, .none]) (b := 0) rfl b3
  obtain ⟨h, s5, hh, b5, e5⟩ := call_lname (Γ := Γ) (env := [s4, .dat (.int n), .dat (.int m), .lst ys, .none]) (b := 0) rfl b4
  obtain ⟨as, s6, ha, b6, e6⟩ := call_answers (Γ := Γ) (env := [s5, .dat (.int n), .dat (.int m), .lst ys, .none]) (n := n) rfl rfl b5
  obtain ⟨ss, s7, hl, hss, b7, e7⟩ := eval_names (Γ := Γ) b6
  have e7' : mCall 2 f_law_names [.brw 0, .ex (mC (.int 8))] [s6, .dat (.int n), .dat (.int m), .lst ys, .none] = some (.lst (ss.map strD), [s7, .dat (.int n), .dat (.int m), .lst ys, .none]) := by
    obtain ⟨i, j, rfl⟩ := b6
    exact call_b2 (f := f_law_names) (env := [bag i j, .dat (.int n), .dat (.int m), .lst ys, .none]) (b := 0) (fm := mC (.int 8)) rfl rfl rfl e7
  refine ⟨⟨n, p, h, as, ss, ws⟩, s7, ⟨hn, hp, hh, ha.as, ha.nd, ha.nn, ha.la, hss, hl, g3, by simp only; omega⟩, b7, ?_⟩
  unfold f_law_fields b_law_fields
  refine (fun_rt (e' := [s7, .dat (.int n), .dat (.int m), .dat (.lst ys), .none]) rfl rfl ?_).trans rfl
  refine (seq_nx (set_eq e1 (by simp))).trans ?_
  refine (seq_nx (set_eq e2 (by simp))).trans ?_
  refine (seq_nx (set_eq lc (by simp [backE]))).trans ?_
  refine ret_eq (lst_N (ds := Fs.D ⟨n, p, h, as, ss, ws⟩) (xs := [.val (.dat (.int n)), .val (.dat (strD p)), .val (.dat (strD h)), .val (.dat (.lst (as.map .int))), .val (.dat (.lst (ss.map strD))), .val (.dat (.lst ys))]) ?_ ?_ (big (Nat.le_of_ble_eq_true rfl)))
  · have v1 : mVar 1 ([s3, .dat (.int n), .dat (.int m), .lst ys, .none] : Env Γ) = some (.dat (.int n), [s3, .dat (.int n), .dat (.int m), .lst ys, .none]) := rfl
    have v3 : mVar 3 ([s7, .dat (.int n), .dat (.int m), .lst ys, .none] : Env Γ) = some (.dat (.lst ys), [s7, .dat (.int n), .dat (.int m), .dat (.lst ys), .none]) := rfl
    have z4 := frz_dat e4
    have z5 := frz_dat e5
    have z6 := frz_lst e6
    have z7 := frz_lst e7'
    simp only [List.set_cons_zero] at z4 z5 z6 z7
    show evAs _ [s3, .dat (.int n), .dat (.int m), .lst ys, .none] = _
    simp only [evAs, evA, v1, z4, z5, z6, z7, v3, Option.map_some]
  · rw [g1]
    rfl
theorem call_fields {env : Env Γ} {b : Nat} {s : Sl Γ} (hb : env[b]? = some s) (hs : isBag s) : ∃ (F : Fs) (s' : Sl Γ), F.ok ∧ isBag s' ∧ mCall 1 f_law_fields [.brw b] env = some (.lst F.D, env.set b s') := by
  obtain ⟨a, s', h1, h2, e⟩ := eval_fields (Γ := Γ) hs
  obtain ⟨i, j, rfl⟩ := hs
  exact ⟨a, s', h1, h2, call_b1 hb rfl e⟩
abbrev lbag : Es Γ := mSet 3 (m2 pMod (.ex (mN (pN1 pInt) [.ex (m2 pAdd (.ex (m2 pAdd (.ex (m2 pAdd (.ex (m2 pMul (.brw 3) (.ex (mC (.int 50021))))) (.ex (m2 pMod (.ex (mN (pN1 pInt) [.brw 5])) (.ex (mC (.int 2147483563))))))) (.ex (m2 pMul (.ex (mC (.int 37))) (.brw 4))))) (.ex (mC (.int 5))))])) (.ex (mC (.int 2147483563))))
theorem step_bag (m k e : Int) (a0 a1 a2 : Sl Γ) : ∃ m', lbag [a0, a1, a2, .dat (.int m), .dat (.int k), .dat (.int e)] = some (.nx, [a0, a1, a2, .dat (.int m'), .dat (.int k), .dat (.int e)]) := by
  refine ⟨(m * 50021 + e % 2147483563 + 37 * k + 5) % 2147483563, ?_⟩
  simp [mFun, mSeq, mIfS, toT, m1, m2, mN, evA, evAs, got, peek, peeks, pEq, pNe, pEqG, pLt, pLe, pGt, pGe, pOrd, pIx, Sl.view, mC, mVar, mRet, mNx, mSet, mDrop, mNotT, mNotE, mNotV, mAndT, mOrT, mAndV, mOrV, mIf, mT, truth, db, di, atI, ixN, okD_int, okD_bl, okD_non, eqD_int, eqD_str, eqD_bl, nonOwn, backE, List.replicate, mRetMv, mQ, evQ, getP, Fd.sl, pTupN, allDat, pN1, pN2, pI, cMod, cMul, cDiv, cPow, pMod, pMul, pDiv, pPow, pAdd, pSub, p0, pInt, pLen, mFrz, lbag]
theorem loop_bag (a0 a1 a2 : Sl Γ) : ∀ (es : List Int) (k : Nat) (m : Int) (s4 s5 : Sl Γ), ∃ m' b4 b5, forL (gTp [gNm 4, gNm 5]) lbag (((es.map G.D.int).zipIdx k).map fun q => .tup [.int (q.2 : Nat), q.1]) [a0, a1, a2, .dat (.int m), s4, s5] = some (.nx, [a0, a1, a2, .dat (.int m'), b4, b5])
  | [], k, m, s4, s5 => ⟨m, s4, s5, rfl⟩
  | e :: es, k, m, s4, s5 => by
    obtain ⟨m1, h1⟩ := step_bag (Γ := Γ) m k e a0 a1 a2
    obtain ⟨m', b4, b5, h⟩ := loop_bag a0 a1 a2 es (k + 1) m1 (.dat (.int k)) (.dat (.int e))
    refine ⟨m', b4, b5, ?_⟩
    rw [List.map_cons, List.zipIdx_cons, List.map_cons]
    unfold forL
    have tg : gTp [gNm 4, gNm 5] (.tup [.int (k : Nat), .int e]) [a0, a1, a2, .dat (.int m), s4, s5] = some [a0, a1, a2, .dat (.int m), .dat (.int k), .dat (.int e)] := by simp [gTp, gAll, gNm]
    rw [tg]
    simp only [h1]
    exact h
theorem eval_bag (ns : List Int) (k : Nat) : ∃ s, isBag s ∧ f_law_bag (Γ := Γ) [.scr ns, .dat (.int k)] = some (s, [.scr ns, .dat (.int k)]) := by
  have c := cut_take (ns.map G.D.int) 40
  rw [← List.map_take] at c
  have c' : cutD (ns.map G.D.int) none (some 40) = (ns.take 40).map G.D.int := c
  have n0 : ∃ x : Int, mIf (toT (m2 pLt (.brw 1) (.ex (mN (pN1 pLen) [.brw 0])))) (m2 pIx (.brw 0) (.brw 1)) (mC (.int 0)) [Sl.scr (Γ := Γ) ns, .dat (.int k), .none, .none, .none, .none] = some (.dat (.int x), [.scr ns, .dat (.int k), .none, .none, .none, .none]) := by
    by_cases h : k < ns.length
    · refine ⟨ns[k], ?_⟩
      have h' : (k : Int) < (ns.length : Int) := by exact_mod_cast h
      simp [mFun, mSeq, mIfS, toT, m1, m2, mN, evA, evAs, got, peek, peeks, pEq, pNe, pEqG, pLt, pLe, pGt, pGe, pOrd, pIx, Sl.view, mC, mVar, mRet, mNx, mSet, mDrop, mNotT, mNotE, mNotV, mAndT, mOrT, mAndV, mOrV, mIf, mT, truth, db, di, atI, ixN, okD_int, okD_bl, okD_non, eqD_int, eqD_str, eqD_bl, nonOwn, backE, List.replicate, mRetMv, mQ, evQ, getP, Fd.sl, pTupN, allDat, pN1, pN2, pI, cMod, cMul, cDiv, cPow, pMod, pMul, pDiv, pPow, pAdd, pSub, p0, pInt, pLen, mFrz, h', h]
    · refine ⟨0, ?_⟩
      have h' : ¬ (k : Int) < (ns.length : Int) := by exact_mod_cast h
      simp [mFun, mSeq, mIfS, toT, m1, m2, mN, evA, evAs, got, peek, peeks, pEq, pNe, pEqG, pLt, pLe, pGt, pGe, pOrd, pIx, Sl.view, mC, mVar, mRet, mNx, mSet, mDrop, mNotT, mNotE, mNotV, mAndT, mOrT, mAndV, mOrV, mIf, mT, truth, db, di, atI, ixN, okD_int, okD_bl, okD_non, eqD_int, eqD_str, eqD_bl, nonOwn, backE, List.replicate, mRetMv, mQ, evQ, getP, Fd.sl, pTupN, allDat, pN1, pN2, pI, cMod, cMul, cDiv, cPow, pMod, pMul, pDiv, pPow, pAdd, pSub, p0, pInt, pLen, mFrz, h', h]
  obtain ⟨x, n0⟩ := n0
  obtain ⟨m', b4, b5, lp⟩ := loop_bag (Γ := Γ) (.scr ns) (.dat (.int k)) (.dat (.int x)) (ns.take 40) 0 (7129 * (k : Int) + 613) .none .none
  refine ⟨bag (if 1000000000000000000 ≤ (if x < 0 then -x else x) then (if x < 0 then -x else x) else 0) m', ⟨_, _, rfl⟩, ?_⟩
  unfold f_law_bag b_law_bag
  refine (fun_rt (e' := [.scr ns, .dat (.int k), .dat (.int x), .dat (.int m'), b4, b5]) rfl rfl ?_).trans rfl
  refine (seq_nx (set_eq n0 (by simp))).trans ?_
  have s2 : mSet 3 (m2 pAdd (.ex (m2 pMul (.ex (mC (.int 7129))) (.brw 1))) (.ex (mC (.int 613)))) [Sl.scr (Γ := Γ) ns, .dat (.int k), .dat (.int x), .none, .none, .none] = some (.nx, [.scr ns, .dat (.int k), .dat (.int x), .dat (.int (7129 * (k : Int) + 613)), .none, .none]) := by
    simp [mFun, mSeq, mIfS, toT, m1, m2, mN, evA, evAs, got, peek, peeks, pEq, pNe, pEqG, pLt, pLe, pGt, pGe, pOrd, pIx, Sl.view, mC, mVar, mRet, mNx, mSet, mDrop, mNotT, mNotE, mNotV, mAndT, mOrT, mAndV, mOrV, mIf, mT, truth, db, di, atI, ixN, okD_int, okD_bl, okD_non, eqD_int, eqD_str, eqD_bl, nonOwn, backE, List.replicate, mRetMv, mQ, evQ, getP, Fd.sl, pTupN, allDat, pN1, pN2, pI, cMod, cMul, cDiv, cPow, pMod, pMul, pDiv, pPow, pAdd, pSub, p0, pInt, pLen, mFrz, ]
  refine (seq_nx s2).trans ?_
  refine (seq_nx (for_eq (by simp [iEnu, mFrz, m2, evA, got, peek, pSl2, asInt, mC, pSl, Sl.view, c', -List.map_take]) lp)).trans ?_
  have h2 : (2 : Nat) ≤ sizeLine := by decide
  by_cases hx : 1000000000000000000 ≤ (if x < 0 then -x else x)
  · simp [mFun, mSeq, mIfS, toT, m1, m2, mN, evA, evAs, got, peek, peeks, pEq, pNe, pEqG, pLt, pLe, pGt, pGe, pOrd, pIx, Sl.view, mC, mVar, mRet, mNx, mSet, mDrop, mNotT, mNotE, mNotV, mAndT, mOrT, mAndV, mOrV, mIf, mT, truth, db, di, atI, ixN, okD_int, okD_bl, okD_non, eqD_int, eqD_str, eqD_bl, nonOwn, backE, List.replicate, mRetMv, mQ, evQ, getP, Fd.sl, pTupN, allDat, pN1, pN2, pI, cMod, cMul, cDiv, cPow, pMod, pMul, pDiv, pPow, pAdd, pSub, p0, pInt, pLen, mFrz, pAbs, pLstN, h2, hx, bag]
  · simp [mFun, mSeq, mIfS, toT, m1, m2, mN, evA, evAs, got, peek, peeks, pEq, pNe, pEqG, pLt, pLe, pGt, pGe, pOrd, pIx, Sl.view, mC, mVar, mRet, mNx, mSet, mDrop, mNotT, mNotE, mNotV, mAndT, mOrT, mAndV, mOrV, mIf, mT, truth, db, di, atI, ixN, okD_int, okD_bl, okD_non, eqD_int, eqD_str, eqD_bl, nonOwn, backE, List.replicate, mRetMv, mQ, evQ, getP, Fd.sl, pTupN, allDat, pN1, pN2, pI, cMod, cMul, cDiv, cPow, pMod, pMul, pDiv, pPow, pAdd, pSub, p0, pInt, pLen, mFrz, pAbs, pLstN, h2, hx, bag]
end
end K

/-! M00e: what is_name, is_number, are_names, fits_answers answer -/
namespace K
open PySem L2 G
def nm (a : List Nat) : Bool := decide (1 ≤ a.length) && decide (a.length ≤ 8) && a.all fun c => decide (97 ≤ c ∧ c ≤ 122)
theorem Nm.nm {a : List Nat} (h : Nm a) : nm a = true := by
  unfold K.nm
  rw [decide_eq_true h.l1, decide_eq_true h.l8, List.all_eq_true.mpr fun c hc => decide_eq_true (h.let_ c hc)]
  rfl
def isNameD : G.D → Bool
  | .str z => nm z.cps.toList
  | _ => false
def isNumD : G.D → Bool
  | .int i => decide (1 ≤ i ∧ i ≤ TOP)
  | _ => false
def okN : G.D → Prop
  | .str z => z.length ≤ 1000
  | .ins _ _ => False
  | _ => True
theorem abc_mem (c : Nat) : decide (c ∈ abc.cps.toList) = decide (97 ≤ c ∧ c ≤ 122) := by
  rw [abc_eq]
  by_cases h : 97 ≤ c ∧ c ≤ 122
  · rw [decide_eq_true h]
    refine decide_eq_true ?_
    have : c = 97 ∨ c = 98 ∨ c = 99 ∨ c = 100 ∨ c = 101 ∨ c = 102 ∨ c = 103 ∨ c = 104 ∨ c = 105 ∨ c = 106 ∨ c = 107 ∨ c = 108 ∨ c = 109 ∨ c = 110 ∨ c = 111 ∨ c = 112 ∨ c = 113 ∨ c = 114 ∨ c = 115 ∨ c = 116 ∨ c = 117 ∨ c = 118 ∨ c = 119 ∨ c = 120 ∨ c = 121 ∨ c = 122 := by omega
    simpa using this
  · rw [decide_eq_false h]
    refine decide_eq_false fun z => h ?_
    simp at z
    omega
theorem allBl_map (bs : List Bool) : allBl (bs.map G.D.bl) = some bs := by
  induction bs with
  | nil => rfl
  | cons b bs ih => rw [List.map_cons]; unfold allBl; rw [ih]; rfl
theorem allBl_of (p : G.D → Bool) (ds : List G.D) : allBl (ds.map fun d => G.D.bl (p d)) = some (ds.map p) := by
  have := allBl_map (ds.map p)
  rw [List.map_map] at this
  exact this
section
variable {Γ : Gam}
theorem all_eq {env e1 : Env Γ} {f : Ev Γ} {ds : List G.D} {p : G.D → Bool} (h : f env = some (.lst (ds.map fun d => G.D.bl (p d)), e1)) : mN (pN1 pAll) [.ex f] env = some (.dat (.bl (ds.all p)), e1) := by
  have e : (ds.map p).all id = ds.all p := by rw [List.all_map]; rfl
  simp only [mN, evAs, evA, h, Option.map_some, peeks, peek, pN1, pAll, pBools, Sl.view, allBl_of, e, db]
theorem any_eq {env e1 : Env Γ} {f : Ev Γ} {ds : List G.D} {p : G.D → Bool} (h : f env = some (.lst (ds.map fun d => G.D.bl (p d)), e1)) : mN (pN1 pAny) [.ex f] env = some (.dat (.bl (ds.any p)), e1) := by
  have e : (ds.map p).any id = ds.any p := by rw [List.any_map]; rfl
  simp only [mN, evAs, evA, h, Option.map_some, peeks, peek, pN1, pAny, pBools, Sl.view, allBl_of, e, db]
theorem eval_name_str (z : Str) (hl : z.length ≤ 1000) : f_is_name (Γ := Γ) [.dat (.str z)] = some (.dat (.bl (nm z.cps.toList)), [.dat (.str z)]) := by
  have len : z.length = z.cps.toList.length := by simp [Str.length]
  have ls : z.length ≤ sizeLine := big hl
  unfold f_is_name b_is_name
  refine (fun_rt (e' := [.dat (.str z), .none]) rfl rfl ?_).trans rfl
  have s1 : mIfS (mNotT (mT (.ex (m1 (pIsi "str") (.brw 0))))) (mRet (mC (.bl false))) (mNx) ([.dat (.str z)] ++ List.replicate 1 .none) = some (.nx, ([.dat (.str z), .none] : Env Γ)) := by
    simp [mFun, mSeq, mIfS, toT, m1, m2, mN, evA, evAs, got, peek, peeks, pEq, pNe, pEqG, pLt, pLe, pGt, pGe, pOrd, pIx, Sl.view, mC, mVar, mRet, mNx, mSet, mDrop, mNotT, mNotE, mNotV, mAndT, mOrT, mAndV, mOrV, mIf, mT, truth, db, di, atI, ixN, okD_int, okD_bl, okD_non, eqD_int, eqD_str, eqD_bl, nonOwn, backE, List.replicate, mRetMv, mQ, evQ, getP, Fd.sl, pTupN, allDat, pN1, pN2, pI, cMod, cMul, cDiv, cPow, pMod, pMul, pDiv, pPow, pAdd, pSub, p0, pInt, pLen, mFrz, pIsi, isT]
  refine (seq_nx s1).trans ?_
  by_cases h1 : 1 ≤ z.length
  · by_cases h8 : z.length ≤ 8
    · have s2 : mIfS (mNotT (toT (mChain pLe pLe (.ex (mC (.int 1))) (mN (pN1 pLen) [.brw 0]) (.ex (mC (.int 8)))))) (mRet (mC (.bl false))) (mNx) ([.dat (.str z), .none] : Env Γ) = some (.nx, [.dat (.str z), .none]) := by
        have q1 : (1 : Int) ≤ (z.length : Int) := by omega
        have q8 : (z.length : Int) ≤ 8 := by omega
        simp [mFun, mSeq, mIfS, toT, m1, m2, mN, evA, evAs, got, peek, peeks, pEq, pNe, pEqG, pLt, pLe, pGt, pGe, pOrd, pIx, Sl.view, mC, mVar, mRet, mNx, mSet, mDrop, mNotT, mNotE, mNotV, mAndT, mOrT, mAndV, mOrV, mIf, mT, truth, db, di, atI, ixN, okD_int, okD_bl, okD_non, eqD_int, eqD_str, eqD_bl, nonOwn, backE, List.replicate, mRetMv, mQ, evQ, getP, Fd.sl, pTupN, allDat, pN1, pN2, pI, cMod, cMul, cDiv, cPow, pMod, pMul, pDiv, pPow, pAdd, pSub, p0, pInt, pLen, mFrz, mChain, ls, q1, q8]
      refine (seq_nx s2).trans ?_
      have e3 : nm z.cps.toList = z.cps.toList.all fun c => decide (97 ≤ c ∧ c ≤ 122) := by unfold nm; rw [← len]; simp [h1, h8]
      have c : compL [1] (gNm 1) (fun env => some (true, env)) (m2 pIn (.brw 1) (.ex (mC (.str "abcdefghijklmnopqrstuvwxyz")))) (z.cps.toList.map fun c => G.D.str ⟨#[c]⟩) ([.dat (.str z), .none] : Env Γ) = some ((z.cps.toList.map fun c => G.D.str ⟨#[c]⟩).map fun d => G.D.bl (match d with | .str x => (x.cps.toList.all fun c => decide (97 ≤ c ∧ c ≤ 122)) | _ => false), [.dat (.str z), .none]) := by
        refine compL_map _ _ fun d hd => ?_
        obtain ⟨c, _, rfl⟩ := List.mem_map.mp hd
        refine ⟨[.dat (.str z), .dat (.str ⟨#[c]⟩)], [.dat (.str z), .dat (.str ⟨#[c]⟩)], rfl, ?_, rfl⟩
        have hs : sIn ⟨#[c]⟩ "abcdefghijklmnopqrstuvwxyz" = decide (97 ≤ c ∧ c ≤ 122) := abc_mem c
        simp only [m2, evA, got, List.getElem?_cons_succ, List.getElem?_cons_zero, Option.map_some, mC, peek, pIn, pInG, Sl.view, hs, id, db]
        simp
      have lc := lc_eq (Γ := Γ) (fi := iTxt (mVar 0)) (env := [.dat (.str z), .none]) (e1 := [.dat (.str z), .none]) (vs := [1]) (e2 := [.dat (.str z), .none]) rfl (by rw [List.length_map, ← len]; exact ls) rfl c
      have al := all_eq lc
      rw [e3]
      refine ret_eq (al.trans ?_)
      rw [List.all_map]
      congr 4
      congr 1
      funext c
      simp
    · have s2 : mIfS (mNotT (toT (mChain pLe pLe (.ex (mC (.int 1))) (mN (pN1 pLen) [.brw 0]) (.ex (mC (.int 8)))))) (mRet (mC (.bl false))) (mNx) ([.dat (.str z), .none] : Env Γ) = some (.rt (.dat (.bl false)), [.dat (.str z), .none]) := by
        have q1 : (1 : Int) ≤ (z.length : Int) := by omega
        have q8 : ¬ (z.length : Int) ≤ 8 := by omega
        simp [mFun, mSeq, mIfS, toT, m1, m2, mN, evA, evAs, got, peek, peeks, pEq, pNe, pEqG, pLt, pLe, pGt, pGe, pOrd, pIx, Sl.view, mC, mVar, mRet, mNx, mSet, mDrop, mNotT, mNotE, mNotV, mAndT, mOrT, mAndV, mOrV, mIf, mT, truth, db, di, atI, ixN, okD_int, okD_bl, okD_non, eqD_int, eqD_str, eqD_bl, nonOwn, backE, List.replicate, mRetMv, mQ, evQ, getP, Fd.sl, pTupN, allDat, pN1, pN2, pI, cMod, cMul, cDiv, cPow, pMod, pMul, pDiv, pPow, pAdd, pSub, p0, pInt, pLen, mFrz, mChain, ls, q1, q8]
      refine (seq_rt s2).trans ?_
      have e3 : nm z.cps.toList = false := by unfold nm; rw [← len]; simp [h8]
      rw [e3]
  · have s2 : mIfS (mNotT (toT (mChain pLe pLe (.ex (mC (.int 1))) (mN (pN1 pLen) [.brw 0]) (.ex (mC (.int 8)))))) (mRet (mC (.bl false))) (mNx) ([.dat (.str z), .none] : Env Γ) = some (.rt (.dat (.bl false)), [.dat (.str z), .none]) := by
      have q1 : ¬ (1 : Int) ≤ (z.length : Int) := by omega
      simp [mFun, mSeq, mIfS, toT, m1, m2, mN, evA, evAs, got, peek, peeks, pEq, pNe, pEqG, pLt, pLe, pGt, pGe, pOrd, pIx, Sl.view, mC, mVar, mRet, mNx, mSet, mDrop, mNotT, mNotE, mNotV, mAndT, mOrT, mAndV, mOrV, mIf, mT, truth, db, di, atI, ixN, okD_int, okD_bl, okD_non, eqD_int, eqD_str, eqD_bl, nonOwn, backE, List.replicate, mRetMv, mQ, evQ, getP, Fd.sl, pTupN, allDat, pN1, pN2, pI, cMod, cMul, cDiv, cPow, pMod, pMul, pDiv, pPow, pAdd, pSub, p0, pInt, pLen, mFrz, mChain, ls, q1]
    refine (seq_rt s2).trans ?_
    have e3 : nm z.cps.toList = false := by unfold nm; rw [← len]; simp [h1]
    rw [e3]
theorem eval_is_name {d : G.D} (h : okN d) : f_is_name (Γ := Γ) [.dat d] = some (.dat (.bl (isNameD d)), [.dat d]) := by
  cases d with
  | str z => exact eval_name_str z h
  | ins _ _ => exact h.elim
  | non => simp [mFun, mSeq, mIfS, toT, m1, m2, mN, evA, evAs, got, peek, peeks, pEq, pNe, pEqG, pLt, pLe, pGt, pGe, pOrd, pIx, Sl.view, mC, mVar, mRet, mNx, mSet, mDrop, mNotT, mNotE, mNotV, mAndT, mOrT, mAndV, mOrV, mIf, mT, truth, db, di, atI, ixN, okD_int, okD_bl, okD_non, eqD_int, eqD_str, eqD_bl, nonOwn, backE, List.replicate, mRetMv, mQ, evQ, getP, Fd.sl, pTupN, allDat, pN1, pN2, pI, cMod, cMul, cDiv, cPow, pMod, pMul, pDiv, pPow, pAdd, pSub, p0, pInt, pLen, mFrz, f_is_name, b_is_name, pIsi, isT, isNameD]
  | bl b => simp [mFun, mSeq, mIfS, toT, m1, m2, mN, evA, evAs, got, peek, peeks, pEq, pNe, pEqG, pLt, pLe, pGt, pGe, pOrd, pIx, Sl.view, mC, mVar, mRet, mNx, mSet, mDrop, mNotT, mNotE, mNotV, mAndT, mOrT, mAndV, mOrV, mIf, mT, truth, db, di, atI, ixN, okD_int, okD_bl, okD_non, eqD_int, eqD_str, eqD_bl, nonOwn, backE, List.replicate, mRetMv, mQ, evQ, getP, Fd.sl, pTupN, allDat, pN1, pN2, pI, cMod, cMul, cDiv, cPow, pMod, pMul, pDiv, pPow, pAdd, pSub, p0, pInt, pLen, mFrz, f_is_name, b_is_name, pIsi, isT, isNameD]
  | int i => simp [mFun, mSeq, mIfS, toT, m1, m2, mN, evA, evAs, got, peek, peeks, pEq, pNe, pEqG, pLt, pLe, pGt, pGe, pOrd, pIx, Sl.view, mC, mVar, mRet, mNx, mSet, mDrop, mNotT, mNotE, mNotV, mAndT, mOrT, mAndV, mOrV, mIf, mT, truth, db, di, atI, ixN, okD_int, okD_bl, okD_non, eqD_int, eqD_str, eqD_bl, nonOwn, backE, List.replicate, mRetMv, mQ, evQ, getP, Fd.sl, pTupN, allDat, pN1, pN2, pI, cMod, cMul, cDiv, cPow, pMod, pMul, pDiv, pPow, pAdd, pSub, p0, pInt, pLen, mFrz, f_is_name, b_is_name, pIsi, isT, isNameD]
  | tup ds => simp [mFun, mSeq, mIfS, toT, m1, m2, mN, evA, evAs, got, peek, peeks, pEq, pNe, pEqG, pLt, pLe, pGt, pGe, pOrd, pIx, Sl.view, mC, mVar, mRet, mNx, mSet, mDrop, mNotT, mNotE, mNotV, mAndT, mOrT, mAndV, mOrV, mIf, mT, truth, db, di, atI, ixN, okD_int, okD_bl, okD_non, eqD_int, eqD_str, eqD_bl, nonOwn, backE, List.replicate, mRetMv, mQ, evQ, getP, Fd.sl, pTupN, allDat, pN1, pN2, pI, cMod, cMul, cDiv, cPow, pMod, pMul, pDiv, pPow, pAdd, pSub, p0, pInt, pLen, mFrz, f_is_name, b_is_name, pIsi, isT, isNameD]
  | lst ds => simp [mFun, mSeq, mIfS, toT, m1, m2, mN, evA, evAs, got, peek, peeks, pEq, pNe, pEqG, pLt, pLe, pGt, pGe, pOrd, pIx, Sl.view, mC, mVar, mRet, mNx, mSet, mDrop, mNotT, mNotE, mNotV, mAndT, mOrT, mAndV, mOrV, mIf, mT, truth, db, di, atI, ixN, okD_int, okD_bl, okD_non, eqD_int, eqD_str, eqD_bl, nonOwn, backE, List.replicate, mRetMv, mQ, evQ, getP, Fd.sl, pTupN, allDat, pN1, pN2, pI, cMod, cMul, cDiv, cPow, pMod, pMul, pDiv, pPow, pAdd, pSub, p0, pInt, pLen, mFrz, f_is_name, b_is_name, pIsi, isT, isNameD]
  | odd => simp [mFun, mSeq, mIfS, toT, m1, m2, mN, evA, evAs, got, peek, peeks, pEq, pNe, pEqG, pLt, pLe, pGt, pGe, pOrd, pIx, Sl.view, mC, mVar, mRet, mNx, mSet, mDrop, mNotT, mNotE, mNotV, mAndT, mOrT, mAndV, mOrV, mIf, mT, truth, db, di, atI, ixN, okD_int, okD_bl, okD_non, eqD_int, eqD_str, eqD_bl, nonOwn, backE, List.replicate, mRetMv, mQ, evQ, getP, Fd.sl, pTupN, allDat, pN1, pN2, pI, cMod, cMul, cDiv, cPow, pMod, pMul, pDiv, pPow, pAdd, pSub, p0, pInt, pLen, mFrz, f_is_name, b_is_name, pIsi, isT, isNameD]
theorem eval_is_number {d : G.D} (h : okN d) : f_is_number (Γ := Γ) [.dat d] = some (.dat (.bl (isNumD d)), [.dat d]) := by
  cases d with
  | str z => simp [mFun, mSeq, mIfS, toT, m1, m2, mN, evA, evAs, got, peek, peeks, pEq, pNe, pEqG, pLt, pLe, pGt, pGe, pOrd, pIx, Sl.view, mC, mVar, mRet, mNx, mSet, mDrop, mNotT, mNotE, mNotV, mAndT, mOrT, mAndV, mOrV, mIf, mT, truth, db, di, atI, ixN, okD_int, okD_bl, okD_non, eqD_int, eqD_str, eqD_bl, nonOwn, backE, List.replicate, mRetMv, mQ, evQ, getP, Fd.sl, pTupN, allDat, pN1, pN2, pI, cMod, cMul, cDiv, cPow, pMod, pMul, pDiv, pPow, pAdd, pSub, p0, pInt, pLen, mFrz, f_is_number, b_is_number, pIsi, isT, isNumD]
  | ins _ _ => exact h.elim
  | non => simp [mFun, mSeq, mIfS, toT, m1, m2, mN, evA, evAs, got, peek, peeks, pEq, pNe, pEqG, pLt, pLe, pGt, pGe, pOrd, pIx, Sl.view, mC, mVar, mRet, mNx, mSet, mDrop, mNotT, mNotE, mNotV, mAndT, mOrT, mAndV, mOrV, mIf, mT, truth, db, di, atI, ixN, okD_int, okD_bl, okD_non, eqD_int, eqD_str, eqD_bl, nonOwn, backE, List.replicate, mRetMv, mQ, evQ, getP, Fd.sl, pTupN, allDat, pN1, pN2, pI, cMod, cMul, cDiv, cPow, pMod, pMul, pDiv, pPow, pAdd, pSub, p0, pInt, pLen, mFrz, f_is_number, b_is_number, pIsi, isT, isNumD]
  | bl b => simp [mFun, mSeq, mIfS, toT, m1, m2, mN, evA, evAs, got, peek, peeks, pEq, pNe, pEqG, pLt, pLe, pGt, pGe, pOrd, pIx, Sl.view, mC, mVar, mRet, mNx, mSet, mDrop, mNotT, mNotE, mNotV, mAndT, mOrT, mAndV, mOrV, mIf, mT, truth, db, di, atI, ixN, okD_int, okD_bl, okD_non, eqD_int, eqD_str, eqD_bl, nonOwn, backE, List.replicate, mRetMv, mQ, evQ, getP, Fd.sl, pTupN, allDat, pN1, pN2, pI, cMod, cMul, cDiv, cPow, pMod, pMul, pDiv, pPow, pAdd, pSub, p0, pInt, pLen, mFrz, f_is_number, b_is_number, pIsi, isT, isNumD]
  | int i =>
    by_cases h1 : 1 ≤ i
    · by_cases h2 : i ≤ TOP
      · have h2' := h2
        unfold TOP at h2'
        simp [mFun, mSeq, mIfS, toT, m1, m2, mN, evA, evAs, got, peek, peeks, pEq, pNe, pEqG, pLt, pLe, pGt, pGe, pOrd, pIx, Sl.view, mC, mVar, mRet, mNx, mSet, mDrop, mNotT, mNotE, mNotV, mAndT, mOrT, mAndV, mOrV, mIf, mT, truth, db, di, atI, ixN, okD_int, okD_bl, okD_non, eqD_int, eqD_str, eqD_bl, nonOwn, backE, List.replicate, mRetMv, mQ, evQ, getP, Fd.sl, pTupN, allDat, pN1, pN2, pI, cMod, cMul, cDiv, cPow, pMod, pMul, pDiv, pPow, pAdd, pSub, p0, pInt, pLen, mFrz, f_is_number, b_is_number, pIsi, isT, isNumD, mChain, h1, h2, h2']
      · have h2' := h2
        unfold TOP at h2'
        simp [mFun, mSeq, mIfS, toT, m1, m2, mN, evA, evAs, got, peek, peeks, pEq, pNe, pEqG, pLt, pLe, pGt, pGe, pOrd, pIx, Sl.view, mC, mVar, mRet, mNx, mSet, mDrop, mNotT, mNotE, mNotV, mAndT, mOrT, mAndV, mOrV, mIf, mT, truth, db, di, atI, ixN, okD_int, okD_bl, okD_non, eqD_int, eqD_str, eqD_bl, nonOwn, backE, List.replicate, mRetMv, mQ, evQ, getP, Fd.sl, pTupN, allDat, pN1, pN2, pI, cMod, cMul, cDiv, cPow, pMod, pMul, pDiv, pPow, pAdd, pSub, p0, pInt, pLen, mFrz, f_is_number, b_is_number, pIsi, isT, isNumD, mChain, h1, h2, h2']
    · simp [mFun, mSeq, mIfS, toT, m1, m2, mN, evA, evAs, got, peek, peeks, pEq, pNe, pEqG, pLt, pLe, pGt, pGe, pOrd, pIx, Sl.view, mC, mVar, mRet, mNx, mSet, mDrop, mNotT, mNotE, mNotV, mAndT, mOrT, mAndV, mOrV, mIf, mT, truth, db, di, atI, ixN, okD_int, okD_bl, okD_non, eqD_int, eqD_str, eqD_bl, nonOwn, backE, List.replicate, mRetMv, mQ, evQ, getP, Fd.sl, pTupN, allDat, pN1, pN2, pI, cMod, cMul, cDiv, cPow, pMod, pMul, pDiv, pPow, pAdd, pSub, p0, pInt, pLen, mFrz, f_is_number, b_is_number, pIsi, isT, isNumD, mChain, h1]
  | tup ds => simp [mFun, mSeq, mIfS, toT, m1, m2, mN, evA, evAs, got, peek, peeks, pEq, pNe, pEqG, pLt, pLe, pGt, pGe, pOrd, pIx, Sl.view, mC, mVar, mRet, mNx, mSet, mDrop, mNotT, mNotE, mNotV, mAndT, mOrT, mAndV, mOrV, mIf, mT, truth, db, di, atI, ixN, okD_int, okD_bl, okD_non, eqD_int, eqD_str, eqD_bl, nonOwn, backE, List.replicate, mRetMv, mQ, evQ, getP, Fd.sl, pTupN, allDat, pN1, pN2, pI, cMod, cMul, cDiv, cPow, pMod, pMul, pDiv, pPow, pAdd, pSub, p0, pInt, pLen, mFrz, f_is_number, b_is_number, pIsi, isT, isNumD]
  | lst ds => simp [mFun, mSeq, mIfS, toT, m1, m2, mN, evA, evAs, got, peek, peeks, pEq, pNe, pEqG, pLt, pLe, pGt, pGe, pOrd, pIx, Sl.view, mC, mVar, mRet, mNx, mSet, mDrop, mNotT, mNotE, mNotV, mAndT, mOrT, mAndV, mOrV, mIf, mT, truth, db, di, atI, ixN, okD_int, okD_bl, okD_non, eqD_int, eqD_str, eqD_bl, nonOwn, backE, List.replicate, mRetMv, mQ, evQ, getP, Fd.sl, pTupN, allDat, pN1, pN2, pI, cMod, cMul, cDiv, cPow, pMod, pMul, pDiv, pPow, pAdd, pSub, p0, pInt, pLen, mFrz, f_is_number, b_is_number, pIsi, isT, isNumD]
  | odd => simp [mFun, mSeq, mIfS, toT, m1, m2, mN, evA, evAs, got, peek, peeks, pEq, pNe, pEqG, pLt, pLe, pGt, pGe, pOrd, pIx, Sl.view, mC, mVar, mRet, mNx, mSet, mDrop, mNotT, mNotE, mNotV, mAndT, mOrT, mAndV, mOrV, mIf, mT, truth, db, di, atI, ixN, okD_int, okD_bl, okD_non, eqD_int, eqD_str, eqD_bl, nonOwn, backE, List.replicate, mRetMv, mQ, evQ, getP, Fd.sl, pTupN, allDat, pN1, pN2, pI, cMod, cMul, cDiv, cPow, pMod, pMul, pDiv, pPow, pAdd, pSub, p0, pInt, pLen, mFrz, f_is_number, b_is_number, pIsi, isT, isNumD]
theorem call_dat {f : Fn Γ} {env : Env Γ} {b : Nat} {d : G.D} {r : Sl Γ} (hb : env[b]? = some (.dat d)) (he : f [.dat d] = some (r, [.dat d])) : mCall 1 f [.brw b] env = some (r, env) := by
  simp [mCall, evAs, evA, hb, got, takeA, nonOwn, he, putA]
theorem call_ex {f : Fn Γ} {fe : Ev Γ} {env e1 : Env Γ} {s r s' : Sl Γ} (h : fe env = some (s, e1)) (he : f [s] = some (r, [s'])) : mCall 1 f [.ex fe] env = some (r, e1) := by
  simp [mCall, evAs, evA, h, takeA, he, putA]
theorem comp_isn {env : Env Γ} {v : Nat} (hv : v < env.length) (hn : env[v]? = some .none) (ds : List G.D) (h : ∀ d ∈ ds, okN d) : compL [v] (gNm v) (fun env => some (true, env)) (mFrz (mCall 1 f_is_name [.brw v])) ds env = some (ds.map fun d => .bl (isNameD d), env) := by
  refine compL_map _ _ fun d hd => ⟨env.set v (.dat d), env.set v (.dat d), by unfold gNm; rw [if_pos hv], frz_dat (call_dat (d := d) (by simp [hv]) (eval_is_name (h d hd))), ?_⟩
  have hs : (env.set v (.dat d)).set v .none = env := by
    rw [List.set_set]
    refine List.ext_getElem? fun i => ?_
    by_cases e : i = v
    · subst e; rw [hn]; simp [hv]
    · rw [List.getElem?_set_ne (fun z => e z.symm)]
  simp [wipeE, wipeL, hv, nonOwn, hs, -List.set_set]
theorem comp_num {env : Env Γ} {v : Nat} (hv : v < env.length) (hn : env[v]? = some .none) (ds : List G.D) (h : ∀ d ∈ ds, okN d) : compL [v] (gNm v) (fun env => some (true, env)) (mFrz (mCall 1 f_is_number [.brw v])) ds env = some (ds.map fun d => .bl (isNumD d), env) := by
  refine compL_map _ _ fun d hd => ⟨env.set v (.dat d), env.set v (.dat d), by unfold gNm; rw [if_pos hv], frz_dat (call_dat (d := d) (by simp [hv]) (eval_is_number (h d hd))), ?_⟩
  have hs : (env.set v (.dat d)).set v .none = env := by
    rw [List.set_set]
    refine List.ext_getElem? fun i => ?_
    by_cases e : i = v
    · subst e; rw [hn]; simp [hv]
    · rw [List.getElem?_set_ne (fun z => e z.symm)]
  simp [wipeE, wipeL, hv, nonOwn, hs, -List.set_set]
/-- a holds the items ds; a': let go of -/
def Sq (a : Sl Γ) (ds : List G.D) (a' : Sl Γ) : Prop := (a = .lst ds ∧ a' = .dat (.lst ds)) ∨ (a = .dat (.lst ds) ∧ a' = .dat (.lst ds)) ∨ (a = .dat (.tup ds) ∧ a' = .dat (.tup ds))
theorem eval_are {a a' : Sl Γ} {ds : List G.D} (q : Sq a ds a') {m : Int} (hm : (ds.length : Int) ≤ m) (hl : ds.length ≤ 1000) (h : ∀ d ∈ ds, okN d) : f_are_names (Γ := Γ) [a, .dat (.int m)] = some (.dat (.bl (ds.all isNameD)), [a', .dat (.int m)]) := by
  unfold f_are_names b_are_names
  have c := comp_isn (Γ := Γ) (env := [a', .dat (.int m), .none]) (v := 2) (by simp) rfl ds h
  have hm' : ¬ m < (ds.length : Int) := by omega
  refine (fun_rt (e' := [a', .dat (.int m), .none]) rfl rfl ?_).trans rfl
  rcases q with ⟨rfl, rfl⟩ | ⟨rfl, rfl⟩ | ⟨rfl, rfl⟩
  · refine (seq_nx (e1 := [.lst ds, .dat (.int m), .none]) (by simp [mFun, mSeq, mIfS, toT, m1, m2, mN, evA, evAs, got, peek, peeks, pEq, pNe, pEqG, pLt, pLe, pGt, pGe, pOrd, pIx, Sl.view, mC, mVar, mRet, mNx, mSet, mDrop, mNotT, mNotE, mNotV, mAndT, mOrT, mAndV, mOrV, mIf, mT, truth, db, di, atI, ixN, okD_int, okD_bl, okD_non, eqD_int, eqD_str, eqD_bl, nonOwn, backE, List.replicate, mRetMv, mQ, evQ, getP, Fd.sl, pTupN, allDat, pN1, pN2, pI, cMod, cMul, cDiv, cPow, pMod, pMul, pDiv, pPow, pAdd, pSub, p0, pInt, pLen, mFrz, pIsLT, isLT, hm'])).trans (ret_eq ?_)
    exact all_eq (lc_eq (fi := iSeq (mVar 0)) (env := [.lst ds, .dat (.int m), .none]) (e1 := [.dat (.lst ds), .dat (.int m), .none]) (vs := [2]) rfl (big hl) rfl c)
  · refine (seq_nx (e1 := [.dat (.lst ds), .dat (.int m), .none]) (by simp [mFun, mSeq, mIfS, toT, m1, m2, mN, evA, evAs, got, peek, peeks, pEq, pNe, pEqG, pLt, pLe, pGt, pGe, pOrd, pIx, Sl.view, mC, mVar, mRet, mNx, mSet, mDrop, mNotT, mNotE, mNotV, mAndT, mOrT, mAndV, mOrV, mIf, mT, truth, db, di, atI, ixN, okD_int, okD_bl, okD_non, eqD_int, eqD_str, eqD_bl, nonOwn, backE, List.replicate, mRetMv, mQ, evQ, getP, Fd.sl, pTupN, allDat, pN1, pN2, pI, cMod, cMul, cDiv, cPow, pMod, pMul, pDiv, pPow, pAdd, pSub, p0, pInt, pLen, mFrz, pIsLT, isLT, hm'])).trans (ret_eq ?_)
    exact all_eq (lc_eq (fi := iSeq (mVar 0)) (env := [.dat (.lst ds), .dat (.int m), .none]) (e1 := [.dat (.lst ds), .dat (.int m), .none]) (vs := [2]) rfl (big hl) rfl c)
  · refine (seq_nx (e1 := [.dat (.tup ds), .dat (.int m), .none]) (by simp [mFun, mSeq, mIfS, toT, m1, m2, mN, evA, evAs, got, peek, peeks, pEq, pNe, pEqG, pLt, pLe, pGt, pGe, pOrd, pIx, Sl.view, mC, mVar, mRet, mNx, mSet, mDrop, mNotT, mNotE, mNotV, mAndT, mOrT, mAndV, mOrV, mIf, mT, truth, db, di, atI, ixN, okD_int, okD_bl, okD_non, eqD_int, eqD_str, eqD_bl, nonOwn, backE, List.replicate, mRetMv, mQ, evQ, getP, Fd.sl, pTupN, allDat, pN1, pN2, pI, cMod, cMul, cDiv, cPow, pMod, pMul, pDiv, pPow, pAdd, pSub, p0, pInt, pLen, mFrz, pIsLT, isLT, hm'])).trans (ret_eq ?_)
    exact all_eq (lc_eq (fi := iSeq (mVar 0)) (env := [.dat (.tup ds), .dat (.int m), .none]) (e1 := [.dat (.tup ds), .dat (.int m), .none]) (vs := [2]) rfl (big hl) rfl c)
theorem eval_are_long {ds : List G.D} {m : Int} (hm : m < (ds.length : Int)) : f_are_names (Γ := Γ) [.dat (.lst ds), .dat (.int m)] = some (.dat (.bl false), [.dat (.lst ds), .dat (.int m)]) := by
  simp [mFun, mSeq, mIfS, toT, m1, m2, mN, evA, evAs, got, peek, peeks, pEq, pNe, pEqG, pLt, pLe, pGt, pGe, pOrd, pIx, Sl.view, mC, mVar, mRet, mNx, mSet, mDrop, mNotT, mNotE, mNotV, mAndT, mOrT, mAndV, mOrV, mIf, mT, truth, db, di, atI, ixN, okD_int, okD_bl, okD_non, eqD_int, eqD_str, eqD_bl, nonOwn, backE, List.replicate, mRetMv, mQ, evQ, getP, Fd.sl, pTupN, allDat, pN1, pN2, pI, cMod, cMul, cDiv, cPow, pMod, pMul, pDiv, pPow, pAdd, pSub, p0, pInt, pLen, mFrz, f_are_names, b_are_names, pIsLT, isLT, hm]
/-- no sequence -/
def noSq : G.D → Bool
  | .lst _ => false
  | .tup _ => false
  | .ins _ _ => false
  | _ => true
theorem eval_are_no {d : G.D} (h : noSq d = true) (m : Int) : f_are_names (Γ := Γ) [.dat d, .dat (.int m)] = some (.dat (.bl false), [.dat d, .dat (.int m)]) := by
  cases d <;> first | (cases h; done) | simp [mFun, mSeq, mIfS, toT, m1, m2, mN, evA, evAs, got, peek, peeks, pEq, pNe, pEqG, pLt, pLe, pGt, pGe, pOrd, pIx, Sl.view, mC, mVar, mRet, mNx, mSet, mDrop, mNotT, mNotE, mNotV, mAndT, mOrT, mAndV, mOrV, mIf, mT, truth, db, di, atI, ixN, okD_int, okD_bl, okD_non, eqD_int, eqD_str, eqD_bl, nonOwn, backE, List.replicate, mRetMv, mQ, evQ, getP, Fd.sl, pTupN, allDat, pN1, pN2, pI, cMod, cMul, cDiv, cPow, pMod, pMul, pDiv, pPow, pAdd, pSub, p0, pInt, pLen, mFrz, f_are_names, b_are_names, pIsLT, isLT]
theorem eval_fits_no {d : G.D} (h : noSq d = true) (n : G.D) : f_fits_answers (Γ := Γ) [.dat n, .dat d] = some (.dat (.bl false), [.dat n, .dat d]) := by
  cases d <;> first | (cases h; done) | simp [mFun, mSeq, mIfS, toT, m1, m2, mN, evA, evAs, got, peek, peeks, pEq, pNe, pEqG, pLt, pLe, pGt, pGe, pOrd, pIx, Sl.view, mC, mVar, mRet, mNx, mSet, mDrop, mNotT, mNotE, mNotV, mAndT, mOrT, mAndV, mOrV, mIf, mT, truth, db, di, atI, ixN, okD_int, okD_bl, okD_non, eqD_int, eqD_str, eqD_bl, nonOwn, backE, List.replicate, mRetMv, mQ, evQ, getP, Fd.sl, pTupN, allDat, pN1, pN2, pI, cMod, cMul, cDiv, cPow, pMod, pMul, pDiv, pPow, pAdd, pSub, p0, pInt, pLen, mFrz, f_fits_answers, b_fits_answers, pIsLT, isLT]
theorem eval_fits_long {ds : List G.D} (n : G.D) (hm : (8 : Int) < (ds.length : Int)) : f_fits_answers (Γ := Γ) [.dat n, .dat (.lst ds)] = some (.dat (.bl false), [.dat n, .dat (.lst ds)]) := by
  simp [mFun, mSeq, mIfS, toT, m1, m2, mN, evA, evAs, got, peek, peeks, pEq, pNe, pEqG, pLt, pLe, pGt, pGe, pOrd, pIx, Sl.view, mC, mVar, mRet, mNx, mSet, mDrop, mNotT, mNotE, mNotV, mAndT, mOrT, mAndV, mOrV, mIf, mT, truth, db, di, atI, ixN, okD_int, okD_bl, okD_non, eqD_int, eqD_str, eqD_bl, nonOwn, backE, List.replicate, mRetMv, mQ, evQ, getP, Fd.sl, pTupN, allDat, pN1, pN2, pI, cMod, cMul, cDiv, cPow, pMod, pMul, pDiv, pPow, pAdd, pSub, p0, pInt, pLen, mFrz, f_fits_answers, b_fits_answers, pIsLT, isLT, hm]
theorem intsOf_map (ns : List Int) : intsOf (ns.map G.D.int) = some ns := by
  induction ns with
  | nil => rfl
  | cons n ns ih => rw [List.map_cons]; unfold intsOf; rw [ih]; rfl
theorem okN_ints (ns : List Int) : ∀ d ∈ ns.map G.D.int, okN d := fun d hd => by
  obtain ⟨i, _, rfl⟩ := List.mem_map.mp hd
  trivial
theorem all_num {ns : List Int} (h : ∀ a ∈ ns, isNo a) : (ns.map G.D.int).all isNumD = true := List.all_eq_true.mpr fun d hd => by
  obtain ⟨i, hi, rfl⟩ := List.mem_map.mp hd
  exact decide_eq_true (h i hi)
theorem eval_fits_item {ds : List G.D} (n : G.D) (hm : ds.length ≤ 8) (h : ∀ d ∈ ds, okN d) (hb : ds.all isNumD = false) : f_fits_answers (Γ := Γ) [.dat n, .dat (.lst ds)] = some (.dat (.bl false), [.dat n, .dat (.lst ds)]) := by
  have c := comp_num (Γ := Γ) (env := [.dat n, .dat (.lst ds), .none]) (v := 2) (by simp) rfl ds h
  have hm' : ¬ (8 : Int) < (ds.length : Int) := by omega
  have al := all_eq (lc_eq (fi := iSeq (mVar 1)) (env := [.dat n, .dat (.lst ds), .none]) (e1 := [.dat n, .dat (.lst ds), .none]) (vs := [2]) rfl (big (by omega)) rfl c)
  rw [hb] at al
  unfold f_fits_answers b_fits_answers
  refine (fun_rt (e' := [.dat n, .dat (.lst ds), .none]) rfl rfl ?_).trans rfl
  refine (seq_nx (e1 := [.dat n, .dat (.lst ds), .none]) (by simp [mFun, mSeq, mIfS, toT, m1, m2, mN, evA, evAs, got, peek, peeks, pEq, pNe, pEqG, pLt, pLe, pGt, pGe, pOrd, pIx, Sl.view, mC, mVar, mRet, mNx, mSet, mDrop, mNotT, mNotE, mNotV, mAndT, mOrT, mAndV, mOrV, mIf, mT, truth, db, di, atI, ixN, okD_int, okD_bl, okD_non, eqD_int, eqD_str, eqD_bl, nonOwn, backE, List.replicate, mRetMv, mQ, evQ, getP, Fd.sl, pTupN, allDat, pN1, pN2, pI, cMod, cMul, cDiv, cPow, pMod, pMul, pDiv, pPow, pAdd, pSub, p0, pInt, pLen, mFrz, pIsLT, isLT, hm'])).trans (seq_rt ?_)
  refine (ifs_t (e1 := [.dat n, .dat (.lst ds), .none]) ?_).trans rfl
  simp only [mNotT, mT, evA, al, Option.map_some, peek, truth, Sl.view]
  rfl
theorem eval_fits {a a' : Sl Γ} {ns : List Int} (q : Sq a (ns.map .int) a') (ht : a ≠ .dat (.tup (ns.map .int)) ∨ ns = []) (n : Int) (hm : ns.length ≤ 8) (h : ∀ i ∈ ns, isNo i) : f_fits_answers (Γ := Γ) [.dat (.int n), a] = some (.dat (.bl (decide (n ∉ ns ∧ manyI ns = ns.length))), [.dat (.int n), a']) := by
  have c := comp_num (Γ := Γ) (env := [.dat (.int n), a', .none]) (v := 2) (by simp) rfl (ns.map .int) (okN_ints ns)
  have hm' : ¬ (8 : Int) < (ns.length : Int) := by omega
  have hz : (ns.map G.D.int).length ≤ sizeLine := by rw [List.length_map]; exact big (by omega)
  have la : ∀ {e0 : Env Γ}, iSeq (mVar 1) e0 = some (ns.map .int, [.dat (.int n), a', .none]) → mN (pN1 pAll) [.ex (mLc (iSeq (mVar 1)) [2] (gNm 2) (fun env => some (true, env)) (mFrz (mCall 1 f_is_number [.brw 2])))] e0 = some (.dat (.bl true), [.dat (.int n), a', .none]) := fun hi => by
    have := all_eq (lc_eq (fi := iSeq (mVar 1)) (vs := [2]) hi hz rfl c)
    rw [all_num h] at this
    exact this
  have a1 := any_int ns n
  have a2 := okD_ints ns
  have l1000 : ns.length ≤ 1000 := by omega
  have fl : (ns.map G.D.int).all isFlat = true := List.all_eq_true.mpr fun d hd => by
    obtain ⟨i, hi, rfl⟩ := List.mem_map.mp hd
    rfl
  have en : mRet (mAndV (m2 pNotIn (.brw 0) (.brw 1)) (m2 pEq (.ex (m1 pLenSet (.brw 1))) (.ex (mN (pN1 pLen) [.brw 1])))) ([.dat (.int n), a', .none] : Env Γ) = some (.rt (.dat (.bl (decide (n ∉ ns ∧ manyI ns = ns.length)))), [.dat (.int n), a', .none]) := by
    have io := intsOf_map ns
    have hq : a' = .dat (.lst (ns.map .int)) ∨ (ns = [] ∧ a' = .dat (.tup [])) := by
      rcases q with ⟨_, h⟩ | ⟨_, h⟩ | ⟨h', h⟩
      · exact .inl h
      · exact .inl h
      · rcases ht with z | z
        · exact absurd h' z
        · subst z; exact .inr ⟨rfl, h⟩
    rcases hq with rfl | ⟨rfl, rfl⟩
    · by_cases h1 : n ∈ ns
      · rw [decide_eq_true h1] at a1
        have e : decide (n ∉ ns ∧ manyI ns = ns.length) = false := decide_eq_false fun z => z.1 h1
        rw [e]
        simp only [mRet, mAndV, m2, evA, got, List.getElem?_cons_succ, List.getElem?_cons_zero, Option.map_some, peek, pNotIn, pInG, Sl.view, okD_int, a2, Bool.and_self, if_true, a1, db, truth, Bool.not_true]
      · rw [decide_eq_false h1] at a1
        have e : decide (n ∉ ns ∧ manyI ns = ns.length) = decide ((manyI ns : Int) = (ns.length : Int)) := by
          by_cases z : manyI ns = ns.length
          · rw [decide_eq_true ⟨h1, z⟩, z]; simp
          · rw [decide_eq_false fun q => z q.2]
            exact (decide_eq_false fun q => z (by exact_mod_cast q)).symm
        rw [e]
        simp only [mRet, mAndV, m2, m1, mN, evA, evAs, peeks, pN1, got, List.getElem?_cons_succ, List.getElem?_cons_zero, Option.map_some, peek, pNotIn, pInG, Sl.view, okD_int, a2, Bool.and_self, if_true, a1, db, truth, Bool.not_false, pLenSet, io, if_pos l1000, di, pLen, List.length_map, pEq, pEqG, eqD_int, id]
    · rfl
  unfold f_fits_answers b_fits_answers
  refine (fun_rt (e' := [.dat (.int n), a', .none]) rfl rfl ?_).trans rfl
  refine (seq_nx (e1 := [.dat (.int n), a, .none]) ?_).trans ((seq_nx (e1 := [.dat (.int n), a', .none]) ((ifs_f ?_).trans rfl)).trans en)
  · rcases q with ⟨rfl, rfl⟩ | ⟨rfl, rfl⟩ | ⟨rfl, rfl⟩ <;> simp [mFun, mSeq, mIfS, toT, m1, m2, mN, evA, evAs, got, peek, peeks, pEq, pNe, pEqG, pLt, pLe, pGt, pGe, pOrd, pIx, Sl.view, mC, mVar, mRet, mNx, mSet, mDrop, mNotT, mNotE, mNotV, mAndT, mOrT, mAndV, mOrV, mIf, mT, truth, db, di, atI, ixN, okD_int, okD_bl, okD_non, eqD_int, eqD_str, eqD_bl, nonOwn, backE, List.replicate, mRetMv, mQ, evQ, getP, Fd.sl, pTupN, allDat, pN1, pN2, pI, cMod, cMul, cDiv, cPow, pMod, pMul, pDiv, pPow, pAdd, pSub, p0, pInt, pLen, mFrz, pIsLT, isLT, hm']
  · have hi : iSeq (mVar 1) ([.dat (.int n), a, .none] : Env Γ) = some (ns.map .int, [.dat (.int n), a', .none]) := by rcases q with ⟨rfl, rfl⟩ | ⟨rfl, rfl⟩ | ⟨rfl, rfl⟩ <;> rfl
    simp only [mNotT, mT, evA, la hi, Option.map_some, peek, truth, Sl.view]
    rfl
theorem many_nodup {ns : List Int} (h : ns.Nodup) : manyI ns = ns.length := by
  unfold manyI
  rw [RZ.firstMet_nodup h _ (Nat.le_refl _), List.take_length]
end
end K

/-! M00f: rows of a letter's text -/
namespace K
open PySem L2 G
/-- a text of at most k signs -/
def sh (k : Nat) (d : G.D) : Prop := ∃ z : Str, d = .str z ∧ z.length ≤ k
theorem sh_mono {k l : Nat} {d : G.D} (h : sh k d) (hl : k ≤ l) : sh l d := by
  obtain ⟨z, e, q⟩ := h
  exact ⟨z, e, Nat.le_trans q hl⟩
theorem sum_le {B : Nat} : ∀ ys : List Str, (∀ y ∈ ys, y.length ≤ B) → (ys.map (·.length)).sum ≤ ys.length * B
  | [], _ => by simp
  | x :: r, h => by
    have ih := sum_le r fun z hz => h z (List.mem_cons_of_mem _ hz)
    have := h x List.mem_cons_self
    rw [List.map_cons, List.sum_cons, List.length_cons, Nat.add_mul]
    omega
theorem join_le (z : Str) : ∀ ys : List Str, (Str.join z ys).length ≤ (ys.map (·.length)).sum + ys.length * z.length
  | [] => by show (Str.join z []).length ≤ _; simp [Str.join, Str.length, Str.empty]
  | [x] => by show x.length ≤ _; simp
  | x :: y :: r => by
    have ih := join_le z (y :: r)
    have e : Str.join z (x :: y :: r) = x ++ z ++ Str.join z (y :: r) := rfl
    rw [e, Str.length_append, Str.length_append, List.map_cons, List.sum_cons, List.length_cons, Nat.add_mul]
    omega
section
variable {Γ : Gam}
theorem join_sq {a : Sl Γ} {ds : List G.D} (ha : a.view = some (.lst ds) ∨ a.view = some (.tup ds)) {k : Nat} (h : ∀ d ∈ ds, sh k d) (z : Str) (hz : z.length ≤ 1) (hb : ds.length * k + ds.length ≤ 1000000) : ∃ t : Str, t.length ≤ ds.length * k + ds.length ∧ pJoin z a = some (.dat (.str t)) := by
  obtain ⟨ys, e, l, q⟩ := lift_all (f := G.D.str) (P := fun z => z.length ≤ k) ds h
  have s := sum_le ys q
  have jl := join_le z ys
  have m : ys.length * z.length ≤ ys.length := by
    have := Nat.mul_le_mul_left ys.length hz
    omega
  rw [l] at s
  refine ⟨Txt.join z ys, by rw [TL.join_eq]; omega, ?_⟩
  have c : (ys.map (·.length)).sum + ys.length * z.length ≤ 16777216 := by omega
  unfold pJoin
  rcases ha with ha | ha
  · rw [ha]
    simp only [e, allStr_map, if_pos c]
  · rw [ha]
    simp only [e, allStr_map, if_pos c]
theorem cut_mem {ds : List G.D} {lo hi : Option Int} : (∀ d ∈ cutD ds lo hi, d ∈ ds) ∧ (cutD ds lo hi).length ≤ ds.length := by
  unfold cutD
  refine ⟨fun d hd => List.mem_of_mem_drop (List.mem_of_mem_take hd), ?_⟩
  rw [List.length_take, List.length_drop]
  omega
theorem steps (j : Nat) (c : Int) (hc : 0 < c) : stepN j c ≤ j := by
  unfold stepN
  split
  · have h1 : ((j : Int) - 1) / c ≤ (j : Int) - 1 := Int.ediv_le_self _ (by omega)
    omega
  · omega
theorem rng3_eq {f g : Ev Γ} {env e1 e2 : Env Γ} {j : Nat} {c : Int} (h : f env = some (.dat (.int (j : Int)), e1)) (h' : g e1 = some (.dat (.int c), e2)) (hj : j ≤ 1000) (hc : 0 < c) (hc' : c ≤ 1000) : iRng3 f g env = some ((List.range (stepN j c)).map fun (k : Nat) => G.D.int ((k : Int) * c), e2) := by
  unfold G.iRng3
  rw [h]
  simp only [h']
  exact if_pos ⟨by omega, by omega, hc, hc'⟩
theorem eval_wrapped {lead : Str} {ds : List G.D} {c : Int} (hl : lead.length ≤ 20) (h : ∀ d ∈ ds, sh 40 d) (hd : ds.length ≤ 40) (hc : 0 < c) (hc' : c ≤ 100) : ∃ rows : List G.D, rows.length ≤ 40 ∧ (∀ d ∈ rows, sh 2000 d) ∧ f_wrapped (Γ := Γ) [.dat (.str lead), .lst ds, .dat (.int c)] = some (.lst rows, [.dat (.str lead), .lst ds, .dat (.int c)]) := by
  have hn := steps ds.length c hc
  have sp : (" " : Str).length = 1 := by decide +kernel
  obtain ⟨ps, e, k1, rfl, k3, k4⟩ := compL_inv (Γ := Γ) (vs := [4]) (t := gNm 4) (f := mFrz (mM1 pJoin (mC (.str " ")) (.ex (mSlB (.brw 1) (mVar 4) (m2 pAdd (.brw 4) (.brw 2)))))) (fun env => env = [.dat (.str lead), .lst ds, .dat (.int c), .none, .none, .none]) (sh 1700)
    ((List.range (stepN ds.length c)).map fun (k : Nat) => G.D.int ((k : Int) * c)) (fun d hd' env he => by
      subst he
      obtain ⟨k, _, rfl⟩ := List.mem_map.mp hd'
      obtain ⟨m1, m2'⟩ := cut_mem (ds := ds) (lo := some ((k : Int) * c)) (hi := some ((k : Int) * c + c))
      obtain ⟨t, t1, t2⟩ := join_sq (Γ := Γ) (a := .lst (cutD ds (some ((k : Int) * c)) (some ((k : Int) * c + c)))) (.inl rfl) (fun d hd => h d (m1 d hd)) " " (by rw [sp]; omega) (by omega)
      refine ⟨[.dat (.str lead), .lst ds, .dat (.int c), .none, .dat (.int ((k : Int) * c)), .none], .str t, [.dat (.str lead), .lst ds, .dat (.int c), .none, .dat (.int ((k : Int) * c)), .none], [.dat (.str lead), .lst ds, .dat (.int c), .none, .none, .none], rfl, frz_dat ?_, rfl, rfl, t, rfl, by omega⟩
      have sl : mSlB (.brw 1) (mVar 4) (m2 pAdd (.brw 4) (.brw 2)) ([.dat (.str lead), .lst ds, .dat (.int c), .none, .dat (.int ((k : Int) * c)), .none] : Env Γ) = some (.lst (cutD ds (some ((k : Int) * c)) (some ((k : Int) * c + c))), [.dat (.str lead), .lst ds, .dat (.int c), .none, .dat (.int ((k : Int) * c)), .none]) := rfl
      simp only [mM1, mC, evA, sl, Option.map_some, peek, t2]) [.dat (.str lead), .lst ds, .dat (.int c), .none, .none, .none] rfl
  rw [List.length_map, List.length_range] at k3
  have lc := lc_eq (rng3_eq (f := mN (pN1 pLen) [.brw 1]) (g := mVar 2) (env := [.dat (.str lead), .lst ds, .dat (.int c), .none, .none, .none]) (j := ds.length) (c := c) rfl rfl (by omega) hc (by omega)) (by rw [List.length_map, List.length_range]; exact big (by omega)) (vs := [4]) (e2 := [.dat (.str lead), .lst ds, .dat (.int c), .none, .none, .none]) rfl k1
  have q1 : mSet 3 (mLc (iRng3 (mN (pN1 pLen) [.brw 1]) (mVar 2)) [4] (gNm 4) (fun env => some (true, env)) (mFrz (mM1 pJoin (mC (.str " ")) (.ex (mSlB (.brw 1) (mVar 4) (m2 pAdd (.brw 4) (.brw 2))))))) ([.dat (.str lead), .lst ds, .dat (.int c), .none, .none, .none] : Env Γ) = some (.nx, [.dat (.str lead), .lst ds, .dat (.int c), .lst ps, .none, .none]) := (set_eq lc (by simp [backE])).trans rfl
  obtain ⟨rows, e, j1, rfl, j3, j4⟩ := compL_inv (Γ := Γ) (vs := [4, 5]) (t := gTp [gNm 4, gNm 5]) (f := mFrz (mIf (toT (m2 pEq (.brw 4) (.ex (mC (.int 0))))) (m2 pAdd (.brw 0) (.brw 5)) (m2 pAdd (.ex (mC (.str " "))) (.brw 5)))) (fun env => env = [.dat (.str lead), .lst ds, .dat (.int c), .dat (.lst ps), .none, .none]) (sh 2000)
    (ps.zipIdx.map fun q => .tup [.int (q.2 : Nat), q.1]) (fun d hd' env he => by
      subst he
      obtain ⟨⟨y, i⟩, hq, rfl⟩ := List.mem_map.mp hd'
      obtain ⟨z, rfl, zl⟩ := k4 y (List.fst_mem_of_mem_zipIdx hq)
      have l1 : lead.length + z.length ≤ sizeLine := Nat.le_trans (show _ ≤ 2000 by omega) (by decide)
      have l2 : (" " : Str).length + z.length ≤ sizeLine := by rw [sp]; exact Nat.le_trans (show _ ≤ 2000 by omega) (by decide)
      by_cases hi : (i : Int) = 0
      · refine ⟨[.dat (.str lead), .lst ds, .dat (.int c), .dat (.lst ps), .dat (.int i), .dat (.str z)], .str (lead ++ z), [.dat (.str lead), .lst ds, .dat (.int c), .dat (.lst ps), .dat (.int i), .dat (.str z)], [.dat (.str lead), .lst ds, .dat (.int c), .dat (.lst ps), .none, .none], rfl, frz_dat ?_, rfl, rfl, _, rfl, by rw [Str.length_append]; omega⟩
        have hp : pAdd (Γ := Γ) (.dat (.str lead)) (.dat (.str z)) = some (.dat (.str (lead ++ z))) := if_pos l1
        have hc : toT (m2 pEq (.brw 4) (.ex (mC (.int 0)))) ([.dat (.str lead), .lst ds, .dat (.int c), .dat (.lst ps), .dat (.int i), .dat (.str z)] : Env Γ) = some (true, [.dat (.str lead), .lst ds, .dat (.int c), .dat (.lst ps), .dat (.int i), .dat (.str z)]) := by
          rw [hi]; simp [mFun, mSeq, mIfS, toT, m1, m2, mN, evA, evAs, got, peek, peeks, pEq, pNe, pEqG, pLt, pLe, pGt, pGe, pOrd, pIx, Sl.view, mC, mVar, mRet, mNx, mSet, mDrop, mNotT, mNotE, mNotV, mAndT, mOrT, mAndV, mOrV, mIf, mT, truth, db, di, atI, ixN, okD_int, okD_bl, okD_non, eqD_int, eqD_str, eqD_bl, nonOwn, backE, List.replicate, mRetMv, mQ, evQ, getP, Fd.sl, pTupN, allDat, pN1, pN2, pI, cMod, cMul, cDiv, cPow, pMod, pMul, pDiv, pPow, pAdd, pSub, p0, pInt, pLen, mFrz, ]
        simp only [mIf, hc, m2, evA, got, List.getElem?_cons_succ, List.getElem?_cons_zero, Option.map_some, peek, hp]
      · refine ⟨[.dat (.str lead), .lst ds, .dat (.int c), .dat (.lst ps), .dat (.int i), .dat (.str z)], .str (" " ++ z), [.dat (.str lead), .lst ds, .dat (.int c), .dat (.lst ps), .dat (.int i), .dat (.str z)], [.dat (.str lead), .lst ds, .dat (.int c), .dat (.lst ps), .none, .none], rfl, frz_dat ?_, rfl, rfl, _, rfl, by rw [Str.length_append, sp]; omega⟩
        have hp : pAdd (Γ := Γ) (.dat (.str " ")) (.dat (.str z)) = some (.dat (.str (" " ++ z))) := if_pos l2
        have hi' : ¬ i = 0 := fun z => hi (by rw [z]; rfl)
        have hc : toT (m2 pEq (.brw 4) (.ex (mC (.int 0)))) ([.dat (.str lead), .lst ds, .dat (.int c), .dat (.lst ps), .dat (.int i), .dat (.str z)] : Env Γ) = some (false, [.dat (.str lead), .lst ds, .dat (.int c), .dat (.lst ps), .dat (.int i), .dat (.str z)]) := by
          simp [mFun, mSeq, mIfS, toT, m1, m2, mN, evA, evAs, got, peek, peeks, pEq, pNe, pEqG, pLt, pLe, pGt, pGe, pOrd, pIx, Sl.view, mC, mVar, mRet, mNx, mSet, mDrop, mNotT, mNotE, mNotV, mAndT, mOrT, mAndV, mOrV, mIf, mT, truth, db, di, atI, ixN, okD_int, okD_bl, okD_non, eqD_int, eqD_str, eqD_bl, nonOwn, backE, List.replicate, mRetMv, mQ, evQ, getP, Fd.sl, pTupN, allDat, pN1, pN2, pI, cMod, cMul, cDiv, cPow, pMod, pMul, pDiv, pPow, pAdd, pSub, p0, pInt, pLen, mFrz, hi, hi']
        simp only [mIf, hc, m2, evA, mC, got, List.getElem?_cons_succ, List.getElem?_cons_zero, Option.map_some, peek, hp]) [.dat (.str lead), .lst ds, .dat (.int c), .dat (.lst ps), .none, .none] rfl
  rw [List.length_map, List.length_zipIdx] at j3
  have lc2 := lc_eq (Γ := Γ) (fi := iEnu (mVar 3)) (env := [.dat (.str lead), .lst ds, .dat (.int c), .lst ps, .none, .none]) (e1 := [.dat (.str lead), .lst ds, .dat (.int c), .dat (.lst ps), .none, .none]) rfl (by rw [List.length_map, List.length_zipIdx]; exact big (by omega)) (vs := [4, 5]) (e2 := [.dat (.str lead), .lst ds, .dat (.int c), .dat (.lst ps), .none, .none]) rfl j1
  refine ⟨rows, by omega, j4, ?_⟩
  unfold f_wrapped b_wrapped
  exact (fun_rt (e' := [.dat (.str lead), .lst ds, .dat (.int c), .dat (.lst ps), .none, .none]) rfl rfl ((seq_nx q1).trans (ret_eq lc2))).trans rfl
theorem eval_body {ds : List G.D} (h : ∀ d ∈ ds, sh 40 d) (hd : ds.length ≤ 40) : ∃ rows : List G.D, rows.length ≤ 41 ∧ (∀ d ∈ rows, sh 2000 d) ∧ f_body_rows (Γ := Γ) [.dat (.tup ds)] = some (.lst rows, [.dat (.tup ds)]) := by
  by_cases he : ds = []
  · subst he
    exact ⟨[], by simp, fun _ z => (nomatch z), rfl⟩
  have hn := steps ds.length 8 (by decide)
  have sp : (" " : Str).length = 1 := by decide +kernel
  obtain ⟨ps, e, k1, rfl, k3, k4⟩ := compL_inv (Γ := Γ) (vs := [1]) (t := gNm 1) (f := mFrz (mM1 pJoin (mC (.str " ")) (.ex (mSlB (.brw 0) (mVar 1) (m2 pAdd (.brw 1) (.ex (mC (.int 8)))))))) (fun env => env = [.dat (.tup ds), .none]) (sh 2000)
    ((List.range (stepN ds.length 8)).map fun (k : Nat) => G.D.int ((k : Int) * 8)) (fun d hd' env he => by
      subst he
      obtain ⟨k, _, rfl⟩ := List.mem_map.mp hd'
      obtain ⟨m1, m2'⟩ := cut_mem (ds := ds) (lo := some ((k : Int) * 8)) (hi := some ((k : Int) * 8 + 8))
      obtain ⟨t, t1, t2⟩ := join_sq (Γ := Γ) (a := .dat (.tup (cutD ds (some ((k : Int) * 8)) (some ((k : Int) * 8 + 8))))) (.inr rfl) (fun d hd => h d (m1 d hd)) " " (by rw [sp]; omega) (by omega)
      refine ⟨[.dat (.tup ds), .dat (.int ((k : Int) * 8))], .str t, [.dat (.tup ds), .dat (.int ((k : Int) * 8))], [.dat (.tup ds), .none], rfl, frz_dat ?_, rfl, rfl, t, rfl, by omega⟩
      have sl : mSlB (.brw 0) (mVar 1) (m2 pAdd (.brw 1) (.ex (mC (.int 8)))) ([.dat (.tup ds), .dat (.int ((k : Int) * 8))] : Env Γ) = some (.dat (.tup (cutD ds (some ((k : Int) * 8)) (some ((k : Int) * 8 + 8)))), [.dat (.tup ds), .dat (.int ((k : Int) * 8))]) := rfl
      simp only [mM1, mC, evA, sl, Option.map_some, peek, t2]) [.dat (.tup ds), .none] rfl
  rw [List.length_map, List.length_range] at k3
  have lc := lc_eq (rng3_eq (f := mN (pN1 pLen) [.brw 0]) (g := mC (.int 8)) (env := [.dat (.tup ds), .none]) (j := ds.length) (c := 8) rfl rfl (by omega) (by decide) (by decide)) (by rw [List.length_map, List.length_range]; exact big (by omega)) (vs := [1]) (e2 := [.dat (.tup ds), .none]) rfl k1
  have l0 : mN pLstN [.ex (mC (.str ""))] ([.dat (.tup ds), .none] : Env Γ) = some (.lst [.str ""], [.dat (.tup ds), .none]) := rfl
  have ad : pAdd (Γ := Γ) (.lst [.str ""]) (.lst ps) = some (.lst ([.str ""] ++ ps)) := if_pos (big (by simp; omega))
  refine ⟨[.str ""] ++ ps, by simp; omega, fun d hd => ?_, ?_⟩
  · rcases List.mem_append.mp hd with z | z
    · rw [List.mem_singleton.mp z]; exact ⟨_, rfl, by decide +kernel⟩
    · exact k4 d z
  · unfold f_body_rows b_body_rows
    have tr : truth (Γ := Γ) (.dat (.tup ds)) = some true := by
      cases ds with
      | nil => exact absurd rfl he
      | cons _ _ => rfl
    have s1 : mIfS (mNotT (mT (.brw 0))) (mRet (mN pLstN [])) (mNx) ([.dat (.tup ds)] ++ List.replicate 1 .none) = some (.nx, ([.dat (.tup ds), .none] : Env Γ)) := by
      refine (ifs_f (e1 := [.dat (.tup ds), .none]) ?_).trans rfl
      simp [mNotT, mT, evA, got, peek, tr]
    exact (fun_rt (e' := [.dat (.tup ds), .none]) rfl rfl ((seq_nx s1).trans (ret_eq (m2_ex l0 lc ad)))).trans rfl
end
end K

/-! M00g: Letter.__init__ at right fields -/
namespace K
open PySem L2 G
def NS : List Str := ["number", "person", "house", "sender", "answers", "subject", "words", "text"]
def sndD (F : Fs) : Str := SX.S F.p ++ " at " ++ SX.S F.h
def ltF (F : Fs) (t : Str) : List (Str × Fd) := [("number", .dat (.int F.n)), ("person", .dat (strD F.p)), ("house", .dat (strD F.h)), ("sender", .dat (.str (sndD F))), ("answers", .dat (.tup (F.as.map .int))), ("subject", .dat (.tup (F.ss.map strD))), ("words", .dat (.tup (F.ws.map strD))), ("text", .dat (.str t))]
theorem sh_name {a : List Nat} (h : Nm a) : sh 40 (strD a) := ⟨_, rfl, by rw [SX.S_len]; have := h.l8; omega⟩
theorem sh_names {ss : List (List Nat)} (h : ∀ a ∈ ss, Nm a) : ∀ d ∈ ss.map strD, sh 40 d := fun d hd => by
  obtain ⟨a, ha, rfl⟩ := List.mem_map.mp hd
  exact sh_name (h a ha)
theorem okN_names {ss : List (List Nat)} (h : ∀ a ∈ ss, Nm a) : ∀ d ∈ ss.map strD, okN d := fun d hd => by
  obtain ⟨a, ha, rfl⟩ := List.mem_map.mp hd
  show (SX.S a).length ≤ 1000
  rw [SX.S_len]
  have := (h a ha).l8
  omega
theorem isN_nm {a : List Nat} (h : Nm a) : isNameD (strD a) = true := h.nm
theorem all_names {ss : List (List Nat)} (h : ∀ a ∈ ss, Nm a) : (ss.map strD).all isNameD = true := List.all_eq_true.mpr fun d hd => by
  obtain ⟨a, ha, rfl⟩ := List.mem_map.mp hd
  exact isN_nm (h a ha)
theorem num_len {n : Int} (h : isNo n) : (Str.ofString (toString n)).length ≤ 31 := PyProof.Rows.toString_length_le (by unfold isNo at h; omega) (by decide) (by unfold isNo TOP at h; omega)
theorem num_log {n : Int} (h : isNo n) : n.natAbs.log2 < 1920 := by
  unfold isNo TOP at h
  have h1 : n.natAbs < 2 ^ 100 := by
    have : (2 : Nat) ^ 100 = 1267650600228229401496703205376 := by decide
    omega
  have h0 : n.natAbs ≠ 0 := by omega
  have := (Nat.log2_lt h0 (k := 100)).mpr h1
  omega
section
variable {Γ : Gam}
theorem has_of {C : Addr} (h : Γ.cls 0 = some (C, NS)) : Γ.has 0 "number" = true ∧ Γ.has 0 "person" = true ∧ Γ.has 0 "house" = true ∧ Γ.has 0 "sender" = true ∧ Γ.has 0 "answers" = true ∧ Γ.has 0 "subject" = true ∧ Γ.has 0 "words" = true ∧ Γ.has 0 "text" = true := by
  unfold Gam.has
  rw [h]
  simp only
  exact ⟨by decide +kernel, by decide +kernel, by decide +kernel, by decide +kernel, by decide +kernel, by decide +kernel, by decide +kernel, by decide +kernel⟩
theorem chk {call : Ev Γ} {env env' : Env Γ} {b : Bool} {X : Es Γ} (h : call env = some (.dat (.bl true), env')) : mIfS (mNotT (mT (.ex call))) X mNx env = some (.nx, env') := by
  refine (ifs_f (e1 := env') ?_).trans rfl
  simp [mNotT, mT, evA, h, peek, truth, Sl.view]
theorem chk_no {call : Ev Γ} {env env' : Env Γ} {X : Es Γ} (h : call env = some (.dat (.bl false), env')) : mIfS (mNotT (mT (.ex call))) X mNx env = X env' := by
  refine (ifs_t (e1 := env') ?_)
  simp [mNotT, mT, evA, h, peek, truth, Sl.view]
theorem call_sq2 {f : Fn Γ} {env : Env Γ} {i j : Nat} {d : G.D} {a a' r : Sl Γ} {ds : List G.D} (h1 : env[i]? = some (.dat d)) (h2 : env[j]? = some a) (q : Sq a ds a') (he : f [.dat d, a] = some (r, [.dat d, a'])) : mCall 2 f [.brw i, .brw j] env = some (r, env.set j a') := by
  have lt : j < env.length := (List.getElem?_eq_some_iff.mp h2).1
  rcases q with ⟨rfl, rfl⟩ | ⟨rfl, rfl⟩ | ⟨rfl, rfl⟩
  · simp [mCall, evAs, evA, h1, h2, got, takeA, nonOwn, he, putA]
  · have hs : env.set j (.dat (.lst ds)) = env := by
      refine List.ext_getElem? fun k => ?_
      by_cases e : k = j
      · subst e; rw [h2]; simp [lt]
      · rw [List.getElem?_set_ne (fun z => e z.symm)]
    rw [hs]
    simp [mCall, evAs, evA, h1, h2, got, takeA, nonOwn, he, putA]
  · have hs : env.set j (.dat (.tup ds)) = env := by
      refine List.ext_getElem? fun k => ?_
      by_cases e : k = j
      · subst e; rw [h2]; simp [lt]
      · rw [List.getElem?_set_ne (fun z => e z.symm)]
    rw [hs]
    simp [mCall, evAs, evA, h1, h2, got, takeA, nonOwn, he, putA]
theorem call_sq1 {f : Fn Γ} {env : Env Γ} {j : Nat} {d : G.D} {a a' r : Sl Γ} {ds : List G.D} {fm : Ev Γ} (h2 : env[j]? = some a) (hm : fm env = some (.dat d, env)) (q : Sq a ds a') (he : f [a, .dat d] = some (r, [a', .dat d])) : mCall 2 f [.brw j, .ex fm] env = some (r, env.set j a') := by
  have lt : j < env.length := (List.getElem?_eq_some_iff.mp h2).1
  rcases q with ⟨rfl, rfl⟩ | ⟨rfl, rfl⟩ | ⟨rfl, rfl⟩
  · simp [mCall, evAs, evA, hm, h2, got, takeA, nonOwn, he, putA]
  · have hs : env.set j (.dat (.lst ds)) = env := by
      refine List.ext_getElem? fun k => ?_
      by_cases e : k = j
      · subst e; rw [h2]; simp [lt]
      · rw [List.getElem?_set_ne (fun z => e z.symm)]
    rw [hs]
    simp [mCall, evAs, evA, hm, h2, got, takeA, nonOwn, he, putA]
  · have hs : env.set j (.dat (.tup ds)) = env := by
      refine List.ext_getElem? fun k => ?_
      by_cases e : k = j
      · subst e; rw [h2]; simp [lt]
      · rw [List.getElem?_set_ne (fun z => e z.symm)]
    rw [hs]
    simp [mCall, evAs, evA, hm, h2, got, takeA, nonOwn, he, putA]
theorem fset {i : Nat} {f : Str} {fe : Ev Γ} {env e1 : Env Γ} {d : G.D} {fs fs' : List (Str × Fd)} (h : fe env = some (.dat d, e1)) (h0 : e1[i]? = some (.ins 0 fs)) (hh : Γ.has 0 f = true) (hl : fs.length < 1000) (hp : putFd f (.dat d) fs = fs') : mFSet i f fe env = some (.nx, e1.set i (.ins 0 fs')) := by
  unfold mFSet
  rw [h]
  simp only [Sl.fd, h0, hh, hp]
  exact if_pos ⟨trivial, hl⟩
theorem tup_of {a a' : Sl Γ} {ds : List G.D} (q : Sq a ds a') {env : Env Γ} {j : Nat} (h : env[j]? = some a') : mFrz (mN (pN1 pTuple) [.brw j]) env = some (.dat (.tup ds), env) := by
  refine frz_dat ?_
  rcases q with ⟨_, rfl⟩ | ⟨_, rfl⟩ | ⟨_, rfl⟩ <;> simp [mN, evAs, evA, h, got, peeks, peek, pN1, pTuple, Sl.view]
theorem add_rows {env e2 : Env Γ} {j : Nat} {a b : List G.D} {fe : Ev Γ} (h : env[j]? = some (.lst a)) (he : fe env = some (.lst b, e2)) (h2 : e2[j]? = some (.lst a)) (hl : a.length + b.length ≤ 1000) : m2 pAdd (.brw j) (.ex fe) env = some (.lst (a ++ b), e2) := by
  have ad : pAdd (Γ := Γ) (.lst a) (.lst b) = some (.lst (a ++ b)) := if_pos (big hl)
  simp [m2, evA, h, got, he, h2, peek, ad]
theorem call3 {f : Fn Γ} {env e1 : Env Γ} {x y z r x' y' z' : Sl Γ} {fx fy fz : Ev Γ} (h1 : fx env = some (x, env)) (h2 : fy env = some (y, e1)) (h3 : fz e1 = some (z, e1)) (he : f [x, y, z] = some (r, [x', y', z'])) : mCall 3 f [.ex fx, .ex fy, .ex fz] env = some (r, e1) := by
  simp [mCall, evAs, evA, h1, h2, h3, takeA, he, putA]
/-- the fields so far -/
def ltN (F : Fs) (k : Nat) : List (Str × Fd) := (ltF F "").take k
theorem str_comp {env : Env Γ} {v : Nat} (hv : v < env.length) (hn : env[v]? = some .none) (ns : List Int) (h : ∀ n ∈ ns, isNo n) : compL [v] (gNm v) (fun env => some (true, env)) (mFrz (mN (pN1 pStr) [.brw v])) (ns.map .int) env = some ((ns.map G.D.int).map fun d => match d with | .int n => .str (Str.ofString (toString n)) | _ => .non, env) := by
  refine compL_map _ _ fun d hd => ?_
  obtain ⟨n, hn', rfl⟩ := List.mem_map.mp hd
  refine ⟨env.set v (.dat (.int n)), env.set v (.dat (.int n)), by unfold gNm; rw [if_pos hv], frz_dat ?_, ?_⟩
  · have lg := num_log (h n hn')
    simp [mN, evAs, evA, hv, got, peeks, peek, pN1, pStr, Sl.view, lg, G.ds]
  · have hs : (env.set v (.dat (.int n))).set v .none = env := by
      rw [List.set_set]
      refine List.ext_getElem? fun i => ?_
      by_cases e : i = v
      · subst e; rw [hn]; simp [hv]
      · rw [List.getElem?_set_ne (fun z => e z.symm)]
    simp [wipeE, wipeL, hv, nonOwn, hs, -List.set_set]
theorem eval_init {C : Addr} (hC : Γ.cls 0 = some (C, NS)) {F : Fs} (hF : F.ok) {a4 b4 a5 b5 a6 b6 : Sl Γ} (q4 : Sq a4 (F.as.map .int) b4) (t4 : a4 ≠ .dat (.tup (F.as.map .int)) ∨ F.as = []) (q5 : Sq a5 (F.ss.map strD) b5) (q6 : Sq a6 (F.ws.map strD) b6) :
    ∃ t, f_LT_init (Γ := Γ) [.ins 0 [], .dat (.int F.n), .dat (strD F.p), .dat (strD F.h), a4, a5, a6] = some (.dat .non, [.ins 0 (ltF F t), .dat (.int F.n), .dat (strD F.p), .dat (strD F.h), b4, b5, b6]) := by
  obtain ⟨H1, H2, H3, H4, H5, H6, H7, H8⟩ := has_of hC
  have e1 : f_is_number (Γ := Γ) [.dat (.int F.n)] = some (.dat (.bl true), [.dat (.int F.n)]) := (eval_is_number (d := .int F.n) trivial).trans (by rw [show isNumD (.int F.n) = true from decide_eq_true hF.n])
  have ep : f_is_name (Γ := Γ) [.dat (strD F.p)] = some (.dat (.bl true), [.dat (strD F.p)]) := (eval_is_name (d := strD F.p) (by show (SX.S F.p).length ≤ 1000; rw [SX.S_len]; have := hF.p.l8; omega)).trans (by rw [isN_nm hF.p])
  have eh : f_is_name (Γ := Γ) [.dat (strD F.h)] = some (.dat (.bl true), [.dat (strD F.h)]) := (eval_is_name (d := strD F.h) (by show (SX.S F.h).length ≤ 1000; rw [SX.S_len]; have := hF.h.l8; omega)).trans (by rw [isN_nm hF.h])
  have e4 : f_fits_answers (Γ := Γ) [.dat (.int F.n), a4] = some (.dat (.bl true), [.dat (.int F.n), b4]) := (eval_fits q4 t4 F.n hF.la hF.as).trans (by rw [decide_eq_true ⟨hF.nn, many_nodup hF.nd⟩])
  have hls := hF.ls
  have hlw := hF.lw
  have hla := hF.la
  have e5 : f_are_names (Γ := Γ) [a5, .dat (.int 8)] = some (.dat (.bl true), [b5, .dat (.int 8)]) := (eval_are q5 (by rw [List.length_map]; omega) (by rw [List.length_map]; omega) (okN_names hF.ss)).trans (by rw [all_names hF.ss])
  have e6 : f_are_names (Γ := Γ) [a6, .dat (.int 40)] = some (.dat (.bl true), [b6, .dat (.int 40)]) := (eval_are q6 (by rw [List.length_map]; omega) (by rw [List.length_map]; omega) (okN_names hF.ws)).trans (by rw [all_names hF.ws])
  have lp := hF.p.l8
  have lh := hF.h.l8
  have atl : (" at " : Str).length = 4 := by decide +kernel
  have sl : (sndD F).length ≤ 20 := by unfold sndD; rw [Str.length_append, Str.length_append, SX.S_len F.p, SX.S_len F.h, atl]; omega
  -- the rows of numbers and senders
  have n31 := num_len hF.n
  have nlg := num_log hF.n
  have r1 : ∃ z : Str, z.length ≤ 100 ∧ ∀ s0 s2 s3 s4 s5 s6 s7 s8 : Sl Γ, mFs [.inl "number: ", .inr (.brw 1)] [s0, .dat (.int F.n), s2, s3, s4, s5, s6, s7, s8] = some (.dat (.str z), [s0, .dat (.int F.n), s2, s3, s4, s5, s6, s7, s8]) := by
    have l0 : (Str.empty ++ ("number: " : Str)).length = 8 := by decide +kernel
    refine ⟨Str.empty ++ "number: " ++ Str.ofString (toString F.n), by rw [Str.length_append, l0]; omega, fun s0 s2 s3 s4 s5 s6 s7 s8 => ?_⟩
    have c1 : (Str.empty ++ ("number: " : Str)).length ≤ sizeLine := by rw [l0]; decide
    have c2 : (Str.empty ++ ("number: " : Str) ++ Str.ofString (toString F.n)).length ≤ sizeLine := by rw [Str.length_append, l0]; exact big (by omega)
    simp only [mFs, mJs, if_pos c1, evA, got, List.getElem?_cons_succ, List.getElem?_cons_zero, Option.map_some, peek, Option.bind_some, fmtS, Sl.view, if_pos nlg, if_pos c2]
  obtain ⟨z1, z1l, r1⟩ := r1
  have r2 : ∃ z : Str, z.length ≤ 100 ∧ ∀ s1 s2 s3 s4 s5 s6 s7 s8 : Sl Γ, mFs [.inl "from: ", .inr (.ex (mQ (.pl (.fl 0 "sender"))))] [.ins 0 (ltN F 7), s1, s2, s3, s4, s5, s6, s7, s8] = some (.dat (.str z), [.ins 0 (ltN F 7), s1, s2, s3, s4, s5, s6, s7, s8]) := by
    have l0 : (Str.empty ++ ("from: " : Str)).length = 6 := by decide +kernel
    refine ⟨Str.empty ++ "from: " ++ sndD F, by rw [Str.length_append, l0]; omega, fun s1 s2 s3 s4 s5 s6 s7 s8 => ?_⟩
    have c1 : (Str.empty ++ ("from: " : Str)).length ≤ sizeLine := by rw [l0]; decide
    have c2 : (Str.empty ++ ("from: " : Str) ++ sndD F).length ≤ sizeLine := by rw [Str.length_append, l0]; exact big (by omega)
    have c3 : (sndD F).length ≤ sizeLine := big (by omega)
    have lk : (ltN F 7).lookup ("sender" : Str) = some (.dat (.str (sndD F))) := rfl
    have g : mQ (.pl (.fl 0 "sender")) [.ins 0 (ltN F 7), s1, s2, s3, s4, s5, s6, s7, s8] = some (.dat (.str (sndD F)), [.ins 0 (ltN F 7), s1, s2, s3, s4, s5, s6, s7, s8]) := by
      simp only [mQ, evQ, getP, List.getElem?_cons_zero, if_pos H4, lk, Option.map_some, Fd.sl]
    simp only [mFs, mJs, if_pos c1, evA, g, Option.map_some, peek, Option.bind_some, fmtS, Sl.view, if_pos c3, if_pos c2]
  obtain ⟨z2, z2l, r2⟩ := r2
  -- answers, subject, words
  obtain ⟨w1, w1l, w1s, ew1⟩ := eval_wrapped (Γ := Γ) (lead := "answers: ") (ds := (F.as.map G.D.int).map fun d => match d with | .int n => .str (Str.ofString (toString n)) | _ => .non) (c := 3) (by decide +kernel) (fun d hd => by
    obtain ⟨x, hx, rfl⟩ := List.mem_map.mp hd
    obtain ⟨n, hn, rfl⟩ := List.mem_map.mp hx
    exact ⟨_, rfl, by have := num_len (hF.as n hn); omega⟩) (by rw [List.length_map, List.length_map]; omega) (by decide) (by decide)
  obtain ⟨w2, w2l, w2s, ew2⟩ := eval_wrapped (Γ := Γ) (lead := "subject: ") (ds := F.ss.map strD) (c := 4) (by decide +kernel) (sh_names hF.ss) (by rw [List.length_map]; omega) (by decide) (by decide)
  obtain ⟨w3, w3l, w3s, ew3⟩ := eval_body (Γ := Γ) (ds := F.ws.map strD) (sh_names hF.ws) (by rw [List.length_map]; omega)
  have nl1 : ("\n" : Str).length ≤ 1 := by decide +kernel
  obtain ⟨t, _, tj⟩ := join_sq (Γ := Γ) (a := .lst (([.str z1, .str z2] ++ w1) ++ w2 ++ w3)) (.inl rfl) (k := 2000) (fun d hd => by
    rcases List.mem_append.mp hd with hd | hd
    · rcases List.mem_append.mp hd with hd | hd
      · rcases List.mem_append.mp hd with hd | hd
        · rcases List.mem_cons.mp hd with z | hd
          · rw [z]; exact ⟨_, rfl, by omega⟩
          · rw [List.mem_singleton.mp hd]; exact ⟨_, rfl, by omega⟩
        · exact w1s d hd
      · exact w2s d hd
    · exact w3s d hd) "\n" nl1 (by simp only [List.length_append, List.length_cons, List.length_nil]; omega)
  refine ⟨t, ?_⟩
  unfold f_LT_init b_LT_init
  refine (fun_nx (e' := [.ins 0 (ltF F t), .dat (.int F.n), .dat (strD F.p), .dat (strD F.h), b4, b5, b6, .lst ([.str z1, .str z2] ++ w1 ++ w2), .none]) rfl rfl ?_).trans rfl
  refine (seq_nx (chk (b := true) (call_dat (d := .int F.n) rfl e1))).trans ?_
  refine (seq_nx (chk (b := true) (call_dat (d := strD F.p) rfl ep))).trans ?_
  refine (seq_nx (chk (b := true) (call_dat (d := strD F.h) rfl eh))).trans ?_
  refine (seq_nx (chk (b := true) (call_sq2 (d := .int F.n) rfl rfl q4 e4))).trans ?_
  refine (seq_nx (chk (b := true) (call_sq1 (a := a5) (d := .int 8) rfl rfl q5 e5))).trans ?_
  refine (seq_nx (chk (b := true) (call_sq1 (a := a6) (d := .int 40) rfl rfl q6 e6))).trans ?_
  refine (seq_nx (fset (d := .int F.n) (fs := []) (fs' := ltN F 1) rfl rfl H1 (Nat.le_of_ble_eq_true rfl) rfl)).trans ?_
  refine (seq_nx (fset (d := strD F.p) (fs := ltN F 1) (fs' := ltN F 2) rfl rfl H2 (Nat.le_of_ble_eq_true rfl) rfl)).trans ?_
  refine (seq_nx (fset (d := strD F.h) (fs := ltN F 2) (fs' := ltN F 3) rfl rfl H3 (Nat.le_of_ble_eq_true rfl) rfl)).trans ?_
  have snd : mFrz (m2 pAdd (.ex (m2 pAdd (.brw 2) (.ex (mC (.str " at "))))) (.brw 3)) ([.ins 0 (ltN F 3), .dat (.int F.n), .dat (strD F.p), .dat (strD F.h), b4, b5, b6, .none, .none] : Env Γ) = some (.dat (.str (sndD F)), [.ins 0 (ltN F 3), .dat (.int F.n), .dat (strD F.p), .dat (strD F.h), b4, b5, b6, .none, .none]) := by
    refine frz_dat ?_
    have c1 : (SX.S F.p).length + (" at " : Str).length ≤ sizeLine := by rw [SX.S_len, atl]; exact big (by omega)
    have c2 : (SX.S F.p ++ (" at " : Str)).length + (SX.S F.h).length ≤ sizeLine := by rw [Str.length_append, SX.S_len F.p, SX.S_len F.h, atl]; exact big (by omega)
    have p1 : pAdd (Γ := Γ) (.dat (strD F.p)) (.dat (.str " at ")) = some (.dat (.str (SX.S F.p ++ " at "))) := if_pos c1
    have p2 : pAdd (Γ := Γ) (.dat (.str (SX.S F.p ++ " at "))) (.dat (strD F.h)) = some (.dat (.str (sndD F))) := if_pos c2
    simp only [m2, evA, mC, got, List.getElem?_cons_succ, List.getElem?_cons_zero, Option.map_some, peek, p1, p2]
  refine (seq_nx (fset (d := .str (sndD F)) (fs := ltN F 3) (fs' := ltN F 4) snd rfl H4 (Nat.le_of_ble_eq_true rfl) rfl)).trans ?_
  refine (seq_nx (fset (d := .tup (F.as.map .int)) (fs := ltN F 4) (fs' := ltN F 5) (tup_of q4 (j := 4) rfl) rfl H5 (Nat.le_of_ble_eq_true rfl) rfl)).trans ?_
  refine (seq_nx (fset (d := .tup (F.ss.map strD)) (fs := ltN F 5) (fs' := ltN F 6) (tup_of q5 (j := 5) rfl) rfl H6 (Nat.le_of_ble_eq_true rfl) rfl)).trans ?_
  refine (seq_nx (fset (d := .tup (F.ws.map strD)) (fs := ltN F 6) (fs' := ltN F 7) (tup_of q6 (j := 6) rfl) rfl H7 (Nat.le_of_ble_eq_true rfl) rfl)).trans ?_
  have rows0 : mSet 7 (mN pLstN [.ex (mFs [.inl "number: ", .inr (.brw 1)]), .ex (mFs [.inl "from: ", .inr (.ex (mQ (.pl (.fl 0 "sender"))))])]) ([.ins 0 (ltN F 7), .dat (.int F.n), .dat (strD F.p), .dat (strD F.h), b4, b5, b6, .none, .none] : Env Γ) = some (.nx, [.ins 0 (ltN F 7), .dat (.int F.n), .dat (strD F.p), .dat (strD F.h), b4, b5, b6, .lst [.str z1, .str z2], .none]) := by
    refine (set_eq (lst_N (e1 := [.ins 0 (ltN F 7), .dat (.int F.n), .dat (strD F.p), .dat (strD F.h), b4, b5, b6, .none, .none]) (ds := [.str z1, .str z2]) (xs := [.val (.dat (.str z1)), .val (.dat (.str z2))]) (by simp only [evAs, evA, r1, r2, Option.map_some]) rfl (big (Nat.le_of_ble_eq_true rfl))) (by simp)).trans rfl
  refine (seq_nx rows0).trans ?_
  have sq4 : iSeq (mVar 4) ([.ins 0 (ltN F 7), .dat (.int F.n), .dat (strD F.p), .dat (strD F.h), b4, b5, b6, .lst [.str z1, .str z2], .none] : Env Γ) = some (F.as.map .int, [.ins 0 (ltN F 7), .dat (.int F.n), .dat (strD F.p), .dat (strD F.h), b4, b5, b6, .lst [.str z1, .str z2], .none]) := by
    rcases q4 with ⟨_, rfl⟩ | ⟨_, rfl⟩ | ⟨_, rfl⟩ <;> rfl
  have lc := lc_eq sq4 (by rw [List.length_map]; exact big (by omega)) (vs := [8]) rfl (str_comp (Γ := Γ) (env := [.ins 0 (ltN F 7), .dat (.int F.n), .dat (strD F.p), .dat (strD F.h), b4, b5, b6, .lst [.str z1, .str z2], .none]) (v := 8) (by simp) rfl F.as hF.as)
  refine (seq_nx ((set_eq (add_rows (j := 7) (a := [.str z1, .str z2]) (b := w1) rfl (call3 rfl lc rfl ew1) rfl (by simp only [List.length_cons, List.length_nil]; omega)) (by simp [backE])).trans (b := some (.nx, [.ins 0 (ltN F 7), .dat (.int F.n), .dat (strD F.p), .dat (strD F.h), b4, b5, b6, .lst ([.str z1, .str z2] ++ w1), .none])) rfl)).trans ?_
  have ls5 : mN (pN1 pList) [.brw 5] ([.ins 0 (ltN F 7), .dat (.int F.n), .dat (strD F.p), .dat (strD F.h), b4, b5, b6, .lst ([.str z1, .str z2] ++ w1), .none] : Env Γ) = some (.lst (F.ss.map strD), [.ins 0 (ltN F 7), .dat (.int F.n), .dat (strD F.p), .dat (strD F.h), b4, b5, b6, .lst ([.str z1, .str z2] ++ w1), .none]) := by
    rcases q5 with ⟨_, rfl⟩ | ⟨_, rfl⟩ | ⟨_, rfl⟩ <;> rfl
  refine (seq_nx ((set_eq (add_rows (j := 7) (a := [.str z1, .str z2] ++ w1) (b := w2) rfl (call3 rfl ls5 rfl ew2) rfl (by simp only [List.length_append, List.length_cons, List.length_nil]; omega)) (by simp)).trans (b := some (.nx, [.ins 0 (ltN F 7), .dat (.int F.n), .dat (strD F.p), .dat (strD F.h), b4, b5, b6, .lst ([.str z1, .str z2] ++ w1 ++ w2), .none])) rfl)).trans ?_
  have gw : mQ (.pl (.fl 0 "words")) ([.ins 0 (ltN F 7), .dat (.int F.n), .dat (strD F.p), .dat (strD F.h), b4, b5, b6, .lst ([.str z1, .str z2] ++ w1 ++ w2), .none] : Env Γ) = some (.dat (.tup (F.ws.map strD)), [.ins 0 (ltN F 7), .dat (.int F.n), .dat (strD F.p), .dat (strD F.h), b4, b5, b6, .lst ([.str z1, .str z2] ++ w1 ++ w2), .none]) := by
    have lk : (ltN F 7).lookup ("words" : Str) = some (.dat (.tup (F.ws.map strD))) := rfl
    simp only [mQ, evQ, getP, List.getElem?_cons_zero, if_pos H7, lk, Option.map_some, Fd.sl]
  have ad := add_rows (Γ := Γ) (env := [.ins 0 (ltN F 7), .dat (.int F.n), .dat (strD F.p), .dat (strD F.h), b4, b5, b6, .lst ([.str z1, .str z2] ++ w1 ++ w2), .none]) (j := 7) (a := [.str z1, .str z2] ++ w1 ++ w2) (b := w3) rfl (call_ex gw ew3) rfl (by simp only [List.length_append, List.length_cons, List.length_nil]; omega)
  have tx : mFrz (mM1 pJoin (mC (.str "\n")) (.ex (m2 pAdd (.brw 7) (.ex (mCall 1 f_body_rows [.ex (mQ (.pl (.fl 0 "words")))]))))) ([.ins 0 (ltN F 7), .dat (.int F.n), .dat (strD F.p), .dat (strD F.h), b4, b5, b6, .lst ([.str z1, .str z2] ++ w1 ++ w2), .none] : Env Γ) = some (.dat (.str t), [.ins 0 (ltN F 7), .dat (.int F.n), .dat (strD F.p), .dat (strD F.h), b4, b5, b6, .lst ([.str z1, .str z2] ++ w1 ++ w2), .none]) := by
    refine frz_dat ?_
    simp only [mM1, mC, evA, ad, Option.map_some, peek, tj]
  exact (fset (d := .str t) (fs := ltN F 7) (fs' := ltF F t) tx rfl H8 (Nat.le_of_ble_eq_true rfl) rfl).trans rfl
end
end K

/-! M00h: equal data; letters made, compared; wrong fields -/
namespace K
open PySem L2 G
def lay (k : Nat) (d : G.D) : Prop := d.toPy.canLay0 = true ∧ d.toPy.depth ≤ k
theorem lay_all {k : Nat} : ∀ ds : List G.D, (∀ d ∈ ds, lay k d) → PyData.canLayAll0 (D.toPys ds) = true ∧ PyData.depthAll (D.toPys ds) ≤ k
  | [], _ => ⟨rfl, Nat.zero_le _⟩
  | d :: ds, h => by
    obtain ⟨h1, h2⟩ := h d List.mem_cons_self
    obtain ⟨i1, i2⟩ := lay_all ds fun x hx => h x (List.mem_cons_of_mem _ hx)
    unfold D.toPys
    unfold PyData.canLayAll0 PyData.depthAll
    rw [h1, i1]
    exact ⟨rfl, Nat.max_le.mpr ⟨h2, i2⟩⟩
theorem lay_lst {k : Nat} {ds : List G.D} (h : ∀ d ∈ ds, lay k d) : lay (k + 1) (.lst ds) := by
  obtain ⟨h1, h2⟩ := lay_all ds h
  unfold lay D.toPy PyData.canLay0 PyData.depth
  exact ⟨h1, by omega⟩
theorem lay_tup {k : Nat} {ds : List G.D} (h : ∀ d ∈ ds, lay k d) : lay (k + 1) (.tup ds) := by
  obtain ⟨h1, h2⟩ := lay_all ds h
  unfold lay D.toPy PyData.canLay0 PyData.depth
  exact ⟨h1, by omega⟩
theorem lay_ok {k : Nat} {d : G.D} (h : lay k d) (hk : k ≤ 60) : okD d = true := by
  unfold okD SeqAt.shaped
  rw [h.1]
  exact decide_eq_true (Nat.le_trans h.2 (by omega))
theorem lay_mono {k l : Nat} {d : G.D} (h : lay k d) (hl : k ≤ l) : lay l d := ⟨h.1, Nat.le_trans h.2 hl⟩
theorem lay_int (i : Int) : lay 0 (.int i) := by unfold lay D.toPy PyData.canLay0 PyData.depth; exact ⟨rfl, Nat.le_refl _⟩
theorem lay_name {a : List Nat} (h : Nm a) : lay 0 (strD a) := by
  unfold lay strD D.toPy PyData.canLay0 PyData.depth
  refine ⟨?_, Nat.le_refl _⟩
  unfold PyData.strOk
  rw [← Array.all_toList]
  exact List.all_eq_true.mpr fun c hc => decide_eq_true (by have := h.let_ c hc; omega)
theorem lay_ints (ns : List Int) : ∀ d ∈ ns.map G.D.int, lay 0 d := fun d hd => by
  obtain ⟨i, _, rfl⟩ := List.mem_map.mp hd
  exact lay_int i
theorem lay_names {ss : List (List Nat)} (h : ∀ a ∈ ss, Nm a) : ∀ d ∈ ss.map strD, lay 0 d := fun d hd => by
  obtain ⟨a, ha, rfl⟩ := List.mem_map.mp hd
  exact lay_name (h a ha)
theorem lay_F {F : Fs} (h : F.ok) : ∀ d ∈ F.D, lay 1 d := fun d hd => by
  unfold Fs.D at hd
  simp only [List.mem_cons, List.not_mem_nil, or_false] at hd
  rcases hd with rfl | rfl | rfl | rfl | rfl | rfl
  · exact lay_mono (lay_int _) (by decide)
  · exact lay_mono (lay_name h.p) (by decide)
  · exact lay_mono (lay_name h.h) (by decide)
  · exact lay_lst (lay_ints _)
  · exact lay_lst (lay_names h.ss)
  · exact lay_lst (lay_names h.ws)
theorem eqv_ints : ∀ ns ms : List Int, PyData.eqvAll (D.toPys (ns.map G.D.int)) (D.toPys (ms.map G.D.int)) = decide (ns = ms)
  | [], [] => rfl
  | [], _ :: _ => rfl
  | _ :: _, [] => rfl
  | n :: ns, m :: ms => by
    rw [List.map_cons, List.map_cons]
    unfold D.toPys PyData.eqvAll
    rw [eqv_ints ns ms]
    have : PyData.eqv (D.toPy (.int n)) (D.toPy (.int m)) = decide (n = m) := eqD_int n m
    rw [this]
    by_cases h1 : n = m <;> by_cases h2 : ns = ms <;> simp [h1, h2]
theorem eqD_name (a b : List Nat) : eqD (strD a) (strD b) = decide (a = b) := by
  unfold strD
  rw [eqD_str]
  by_cases h : a = b
  · rw [h]; simp
  · rw [decide_eq_false h, decide_eq_false fun z => h (SX.S_inj z)]
theorem eqv_names : ∀ ns ms : List (List Nat), PyData.eqvAll (D.toPys (ns.map strD)) (D.toPys (ms.map strD)) = decide (ns = ms)
  | [], [] => rfl
  | [], _ :: _ => rfl
  | _ :: _, [] => rfl
  | n :: ns, m :: ms => by
    rw [List.map_cons, List.map_cons]
    unfold D.toPys PyData.eqvAll
    rw [eqv_names ns ms]
    have : PyData.eqv (D.toPy (strD n)) (D.toPy (strD m)) = decide (n = m) := eqD_name n m
    rw [this]
    by_cases h1 : n = m <;> by_cases h2 : ns = ms <;> simp [h1, h2]
theorem eq_lints (ns ms : List Int) : eqD (.lst (ns.map .int)) (.lst (ms.map .int)) = decide (ns = ms) := by
  unfold eqD D.toPy PyData.eqv
  exact eqv_ints ns ms
theorem eq_tints (ns ms : List Int) : eqD (.tup (ns.map .int)) (.tup (ms.map .int)) = decide (ns = ms) := by
  unfold eqD D.toPy PyData.eqv
  exact eqv_ints ns ms
theorem eq_lnames (ns ms : List (List Nat)) : eqD (.lst (ns.map strD)) (.lst (ms.map strD)) = decide (ns = ms) := by
  unfold eqD D.toPy PyData.eqv
  exact eqv_names ns ms
theorem eq_tnames (ns ms : List (List Nat)) : eqD (.tup (ns.map strD)) (.tup (ms.map strD)) = decide (ns = ms) := by
  unfold eqD D.toPy PyData.eqv
  exact eqv_names ns ms
def eqF (F G : Fs) : Bool := decide (F.n = G.n) && (decide (F.p = G.p) && (decide (F.h = G.h) && (decide (F.as = G.as) && (decide (F.ss = G.ss) && decide (F.ws = G.ws)))))
theorem eqF_self (F : Fs) : eqF F F = true := by unfold eqF; simp
theorem eq_F (F G : Fs) : eqD (.lst F.D) (.lst G.D) = eqF F G := by
  have h : PyData.eqvAll (D.toPys F.D) (D.toPys G.D) = (eqD (.int F.n) (.int G.n) && (eqD (strD F.p) (strD G.p) && (eqD (strD F.h) (strD G.h) && (eqD (.lst (F.as.map .int)) (.lst (G.as.map .int)) && (eqD (.lst (F.ss.map strD)) (.lst (G.ss.map strD)) && (eqD (.lst (F.ws.map strD)) (.lst (G.ws.map strD)) && true)))))) := rfl
  have h0 : eqD (.lst F.D) (.lst G.D) = PyData.eqvAll (D.toPys F.D) (D.toPys G.D) := by unfold eqD D.toPy PyData.eqv; rfl
  rw [h0, h, eqD_int, eqD_name, eqD_name, eq_lints, eq_lnames, eq_lnames, Bool.and_true]
  rfl
section
variable {Γ : Gam}
theorem make6 {f : Fn Γ} {g0 g1 g2 g3 g4 g5 : Ev Γ} {env : Env Γ} {s0 s1 s2 s3 s4 s5 t0 t1 t2 t3 t4 t5 : Sl Γ} {fs : List (Str × Fd)} (h0 : g0 env = some (s0, env)) (h1 : g1 env = some (s1, env)) (h2 : g2 env = some (s2, env)) (h3 : g3 env = some (s3, env)) (h4 : g4 env = some (s4, env)) (h5 : g5 env = some (s5, env))
    (he : f [.ins 0 [], s0, s1, s2, s3, s4, s5] = some (.dat .non, [.ins 0 fs, t0, t1, t2, t3, t4, t5])) : mMakeK 0 7 f 3 [] [.ex g0, .ex g1, .ex g2, .ex g3, .ex g4, .ex g5] env = some (.ins 0 fs, env) := by
  simp [mMakeK, evAs, evA, h0, h1, h2, h3, h4, h5, insA, takeA, he, putA]
theorem make6_no {f : Fn Γ} {g0 g1 g2 g3 g4 g5 : Ev Γ} {env : Env Γ} {s0 s1 s2 s3 s4 s5 : Sl Γ} (h0 : g0 env = some (s0, env)) (h1 : g1 env = some (s1, env)) (h2 : g2 env = some (s2, env)) (h3 : g3 env = some (s3, env)) (h4 : g4 env = some (s4, env)) (h5 : g5 env = some (s5, env))
    (he : f [.ins 0 [], s0, s1, s2, s3, s4, s5] = none) : mMakeK 0 7 f 3 [] [.ex g0, .ex g1, .ex g2, .ex g3, .ex g4, .ex g5] env = none := by
  simp [mMakeK, evAs, evA, h0, h1, h2, h3, h4, h5, insA, takeA, he, putA]
theorem z6 {zf : List G.D → Option Str} {g0 g1 g2 g3 g4 g5 : Ev Γ} {env : Env Γ} {d0 d1 d2 d3 d4 d5 : G.D} {x : Str} (h0 : g0 env = some (.dat d0, env)) (h1 : g1 env = some (.dat d1, env)) (h2 : g2 env = some (.dat d2, env)) (h3 : g3 env = some (.dat d3, env)) (h4 : g4 env = some (.dat d4, env)) (h5 : g5 env = some (.dat d5, env))
    (he : zf [d0, d1, d2, d3, d4, d5] = some x) : zMake zf 3 [] [.ex g0, .ex g1, .ex g2, .ex g3, .ex g4, .ex g5] env = some (x, env) := by
  simp [zMake, evAs, evA, h0, h1, h2, h3, h4, h5, insA, peeks, peek, datsOf, he]
theorem ix_lst {env : Env Γ} {b : Nat} {ds : List G.D} {k : Nat} {d : G.D} (hb : env[b]? = some (.lst ds)) (hd : ds[k]? = some d) : m2 pIx (.brw b) (.ex (mC (.int (k : Nat)))) env = some (.dat d, env) := by
  have lt : k < ds.length := (List.getElem?_eq_some_iff.mp hd).1
  have lt' : (k : Int) < (ds.length : Int) := by omega
  have ix : atI ds (k : Int) = some d := by
    unfold atI ixN
    rw [if_pos (by omega), if_pos lt']
    simpa using hd
  have hp : pIx (Γ := Γ) (.lst ds) (.dat (.int (k : Nat))) = some (.dat d) := by
    unfold pIx
    simp only [Sl.view, ix, Option.map_some]
  simp only [m2, evA, hb, got, mC, Option.map_some, peek, hp]
theorem ix_list {env : Env Γ} {b : Nat} {ds es : List G.D} {k : Nat} (hb : env[b]? = some (.lst ds)) (hd : ds[k]? = some (.lst es)) : mN (pN1 pList) [.ex (m2 pIx (.brw b) (.ex (mC (.int (k : Nat)))))] env = some (.lst es, env) := by
  simp only [mN, evAs, evA, ix_lst hb hd, Option.map_some, peeks, peek, pN1, pList, Sl.view]
theorem eval_letter {C : Addr} (hC : Γ.cls 0 = some (C, NS)) {F : Fs} (hF : F.ok) : ∃ t, f_law_letter (Γ := Γ) [.lst F.D] = some (.ins 0 (ltF F t), [.lst F.D]) := by
  obtain ⟨t, e⟩ := eval_init hC hF (a4 := .lst (F.as.map .int)) (b4 := .dat (.lst (F.as.map .int))) (a5 := .lst (F.ss.map strD)) (b5 := .dat (.lst (F.ss.map strD))) (a6 := .lst (F.ws.map strD)) (b6 := .dat (.lst (F.ws.map strD))) (.inl ⟨rfl, rfl⟩) (.inl (by intro z; cases z)) (.inl ⟨rfl, rfl⟩) (.inl ⟨rfl, rfl⟩)
  refine ⟨t, ?_⟩
  unfold f_law_letter b_law_letter
  have q := make6 (Γ := Γ) (env := [.lst F.D]) (ix_lst (b := 0) (k := 0) rfl rfl) (ix_lst (b := 0) (k := 1) rfl rfl) (ix_lst (b := 0) (k := 2) rfl rfl) (ix_list (b := 0) (k := 3) rfl rfl) (ix_list (b := 0) (k := 4) rfl rfl) (ix_list (b := 0) (k := 5) rfl rfl) e
  exact (fun_rt (e' := [.lst F.D]) rfl rfl (ret_eq q)).trans rfl
theorem call_letter {C : Addr} (hC : Γ.cls 0 = some (C, NS)) {F : Fs} (hF : F.ok) {env : Env Γ} {b : Nat} (hb : env[b]? = some (.lst F.D)) : ∃ t, mCall 1 f_law_letter [.brw b] env = some (.ins 0 (ltF F t), env) := by
  obtain ⟨t, e⟩ := eval_letter (Γ := Γ) hC hF
  have lt : b < env.length := (List.getElem?_eq_some_iff.mp hb).1
  have hs : env.set b (.lst F.D) = env := by
    refine List.ext_getElem? fun k => ?_
    by_cases e : k = b
    · subst e; rw [hb]; simp [lt]
    · rw [List.getElem?_set_ne (fun z => e z.symm)]
  have := call_b1 (f := f_law_letter) hb rfl e
  rw [hs] at this
  exact ⟨t, this⟩
theorem and_t {f g : Ev Γ} {env e1 : Env Γ} {b : Bool} (h : f env = some (.dat (.bl b), e1)) {c : Bool} {e2 : Env Γ} (hg : b = true → g e1 = some (.dat (.bl c), e2)) (he : b = false → e2 = e1) : mAndV f g env = some (.dat (.bl (b && c)), e2) := by
  cases b with
  | true => simp only [mAndV, h, truth, Sl.view, hg rfl, Bool.true_and]
  | false => simp only [mAndV, h, truth, Sl.view, Bool.false_and, he rfl]
theorem fl_get {i : Nat} {f : Str} {env : Env Γ} {fs : List (Str × Fd)} {d : G.D} (h : env[i]? = some (.ins 0 fs)) (hh : Γ.has 0 f = true) (hl : fs.lookup f = some (.dat d)) : mQ (.pl (.fl i f)) env = some (.dat d, env) := by
  simp only [mQ, evQ, getP, h, if_pos hh, hl, Option.map_some, Fd.sl]
theorem eq_ex {f g : Ev Γ} {env e1 e2 : Env Γ} {x y : G.D} (hf : f env = some (.dat x, e1)) (hg : g e1 = some (.dat y, e2)) (ox : okD x = true) (oy : okD y = true) : m2 pEq (.ex f) (.ex g) env = some (.dat (.bl (eqD x y)), e2) := by
  refine m2_ex hf hg ?_
  unfold pEq pEqG
  simp only [Sl.view, ox, oy, Bool.and_self, if_true, id, db]
theorem eval_eq {C : Addr} (hC : Γ.cls 0 = some (C, NS)) {F F' : Fs} (hF : F.ok) (hF' : F'.ok) (t t' : Str) : f_LT_eq (Γ := Γ) [.ins 0 (ltF F t), .ins 0 (ltF F' t')] = some (.dat (.bl (eqF F F')), [.ins 0 (ltF F t), .ins 0 (ltF F' t')]) := by
  obtain ⟨H1, H2, H3, H4, H5, H6, H7, H8⟩ := has_of hC
  have g : ∀ {f : Str} {d d' : G.D}, Γ.has 0 f = true → (ltF F t).lookup f = some (.dat d) → (ltF F' t').lookup f = some (.dat d') → okD d = true → okD d' = true →
      m2 pEq (.ex (mQ (.pl (.fl 0 f)))) (.ex (mQ (.pl (.fl 1 f)))) ([.ins 0 (ltF F t), .ins 0 (ltF F' t')] : Env Γ) = some (.dat (.bl (eqD d d')), [.ins 0 (ltF F t), .ins 0 (ltF F' t')]) := fun hh l1 l2 o1 o2 => eq_ex (fl_get rfl hh l1) (fl_get rfl hh l2) o1 o2
  have i0 : m1 (pIsN 0) (.brw 1) ([.ins 0 (ltF F t), .ins 0 (ltF F' t')] : Env Γ) = some (.dat (.bl true), [.ins 0 (ltF F t), .ins 0 (ltF F' t')]) := by simp [m1, evA, got, peek, pIsN, db]
  have g1 := g H1 (d := .int F.n) (d' := .int F'.n) rfl rfl (okD_int _) (okD_int _)
  have g2 := g H2 (d := strD F.p) (d' := strD F'.p) rfl rfl (lay_ok (lay_name hF.p) (by decide)) (lay_ok (lay_name hF'.p) (by decide))
  have g3 := g H3 (d := strD F.h) (d' := strD F'.h) rfl rfl (lay_ok (lay_name hF.h) (by decide)) (lay_ok (lay_name hF'.h) (by decide))
  have g5 := g H5 (d := .tup (F.as.map .int)) (d' := .tup (F'.as.map .int)) rfl rfl (lay_ok (lay_tup (lay_ints _)) (by decide)) (lay_ok (lay_tup (lay_ints _)) (by decide))
  have g6 := g H6 (d := .tup (F.ss.map strD)) (d' := .tup (F'.ss.map strD)) rfl rfl (lay_ok (lay_tup (lay_names hF.ss)) (by decide)) (lay_ok (lay_tup (lay_names hF'.ss)) (by decide))
  have g7 := g H7 (d := .tup (F.ws.map strD)) (d' := .tup (F'.ws.map strD)) rfl rfl (lay_ok (lay_tup (lay_names hF.ws)) (by decide)) (lay_ok (lay_tup (lay_names hF'.ws)) (by decide))
  rw [eqD_int] at g1
  rw [eqD_name] at g2 g3
  rw [eq_tints] at g5
  rw [eq_tnames] at g6 g7
  unfold f_LT_eq b_LT_eq
  refine (fun_rt (e' := [.ins 0 (ltF F t), .ins 0 (ltF F' t')]) rfl rfl (ret_eq (s := .dat (.bl (eqF F F'))) ?_)).trans rfl
  exact and_t i0 (fun _ => and_t g1 (fun _ => and_t g2 (fun _ => and_t g3 (fun _ => and_t g5 (fun _ => and_t g6 (fun _ => g7) fun _ => rfl) fun _ => rfl) fun _ => rfl) fun _ => rfl) fun _ => rfl) fun _ => rfl
/-- the checks of the fields: the first that fails is the one at k -/
structure Ck (Γ : Gam) (x0 x1 x2 x3 x4 x5 : G.D) (k : Nat) : Prop where
  h0 : f_is_number (Γ := Γ) [.dat x0] = some (.dat (.bl (decide (k ≠ 0))), [.dat x0])
  h1 : 1 ≤ k → f_is_name (Γ := Γ) [.dat x1] = some (.dat (.bl (decide (k ≠ 1))), [.dat x1])
  h2 : 2 ≤ k → f_is_name (Γ := Γ) [.dat x2] = some (.dat (.bl (decide (k ≠ 2))), [.dat x2])
  h3 : 3 ≤ k → f_fits_answers (Γ := Γ) [.dat x0, .dat x3] = some (.dat (.bl (decide (k ≠ 3))), [.dat x0, .dat x3])
  h4 : 4 ≤ k → f_are_names (Γ := Γ) [.dat x4, .dat (.int 8)] = some (.dat (.bl (decide (k ≠ 4))), [.dat x4, .dat (.int 8)])
  h5 : 5 ≤ k → f_are_names (Γ := Γ) [.dat x5, .dat (.int 40)] = some (.dat (.bl (decide (k ≠ 5))), [.dat x5, .dat (.int 40)])
  hk : k ≤ 5
def nmOf : Nat → Str
  | 0 => "number"
  | 1 => "person"
  | 2 => "house"
  | 3 => "answers"
  | 4 => "subject"
  | _ => "words"
theorem call_dd {f : Fn Γ} {env : Env Γ} {i j : Nat} {d e : G.D} {r : Sl Γ} (h1 : env[i]? = some (.dat d)) (h2 : env[j]? = some (.dat e)) (he : f [.dat d, .dat e] = some (r, [.dat d, .dat e])) : mCall 2 f [.brw i, .brw j] env = some (r, env) := by
  simp [mCall, evAs, evA, h1, h2, got, takeA, nonOwn, he, putA]
theorem call_de {f : Fn Γ} {env : Env Γ} {i : Nat} {d e : G.D} {r : Sl Γ} (h1 : env[i]? = some (.dat d)) (he : f [.dat d, .dat e] = some (r, [.dat d, .dat e])) : mCall 2 f [.brw i, .ex (mC e)] env = some (r, env) := by
  simp [mCall, evAs, evA, h1, got, mC, takeA, nonOwn, he, putA]
theorem zif_t {call : Ev Γ} {env env' : Env Γ} {x : Str} {z : Env Γ → Option Str} (h : call env = some (.dat (.bl true), env')) : zIf (mNotT (mT (.ex call))) x z env = z env' := by
  simp [zIf, mNotT, mT, evA, h, peek, truth, Sl.view]
theorem zif_f {call : Ev Γ} {env env' : Env Γ} {x : Str} {z : Env Γ → Option Str} (h : call env = some (.dat (.bl false), env')) : zIf (mNotT (mT (.ex call))) x z env = some x := by
  simp [zIf, mNotT, mT, evA, h, peek, truth, Sl.view]
theorem ck_wrong {x0 x1 x2 x3 x4 x5 : G.D} {k : Nat} (c : Ck Γ x0 x1 x2 x3 x4 x5 k) : f_LT_init (Γ := Γ) [.ins 0 [], .dat x0, .dat x1, .dat x2, .dat x3, .dat x4, .dat x5] = none ∧ zf_LT_init (Γ := Γ) [x0, x1, x2, x3, x4, x5] = some (nmOf k) := by
  obtain ⟨h0, h1, h2, h3, h4, h5, hk⟩ := c
  have hz : zf_LT_init (Γ := Γ) [x0, x1, x2, x3, x4, x5] = z_LT_init [.ins 0 [], .dat x0, .dat x1, .dat x2, .dat x3, .dat x4, .dat x5, .none, .none] := rfl
  rw [hz]
  unfold f_LT_init b_LT_init z_LT_init
  let env : Env Γ := [.ins 0 [], .dat x0, .dat x1, .dat x2, .dat x3, .dat x4, .dat x5, .none, .none]
  have c0 := call_dat (env := env) (b := 1) (d := x0) rfl h0
  match k, hk with
  | 0, _ => exact ⟨fun_no (seq_no (chk_no c0)), zif_f c0⟩
  | 1, _ =>
    have c1 := call_dat (env := env) (b := 2) (d := x1) rfl (h1 (by decide))
    exact ⟨fun_no ((seq_nx (chk (b := true) c0)).trans (seq_no (chk_no c1))), (zif_t c0).trans (zif_f c1)⟩
  | 2, _ =>
    have c1 := call_dat (env := env) (b := 2) (d := x1) rfl (h1 (by decide))
    have c2 := call_dat (env := env) (b := 3) (d := x2) rfl (h2 (by decide))
    exact ⟨fun_no ((seq_nx (chk (b := true) c0)).trans ((seq_nx (chk (b := true) c1)).trans (seq_no (chk_no c2)))), (zif_t c0).trans ((zif_t c1).trans (zif_f c2))⟩
  | 3, _ =>
    have c1 := call_dat (env := env) (b := 2) (d := x1) rfl (h1 (by decide))
    have c2 := call_dat (env := env) (b := 3) (d := x2) rfl (h2 (by decide))
    have c3 := call_dd (env := env) (i := 1) (j := 4) (d := x0) (e := x3) rfl rfl (h3 (by decide))
    exact ⟨fun_no ((seq_nx (chk (b := true) c0)).trans ((seq_nx (chk (b := true) c1)).trans ((seq_nx (chk (b := true) c2)).trans (seq_no (chk_no c3))))), (zif_t c0).trans ((zif_t c1).trans ((zif_t c2).trans (zif_f c3)))⟩
  | 4, _ =>
    have c1 := call_dat (env := env) (b := 2) (d := x1) rfl (h1 (by decide))
    have c2 := call_dat (env := env) (b := 3) (d := x2) rfl (h2 (by decide))
    have c3 := call_dd (env := env) (i := 1) (j := 4) (d := x0) (e := x3) rfl rfl (h3 (by decide))
    have c4 := call_de (env := env) (i := 5) (d := x4) (e := .int 8) rfl (h4 (by decide))
    exact ⟨fun_no ((seq_nx (chk (b := true) c0)).trans ((seq_nx (chk (b := true) c1)).trans ((seq_nx (chk (b := true) c2)).trans ((seq_nx (chk (b := true) c3)).trans (seq_no (chk_no c4)))))), (zif_t c0).trans ((zif_t c1).trans ((zif_t c2).trans ((zif_t c3).trans (zif_f c4))))⟩
  | 5, _ =>
    have c1 := call_dat (env := env) (b := 2) (d := x1) rfl (h1 (by decide))
    have c2 := call_dat (env := env) (b := 3) (d := x2) rfl (h2 (by decide))
    have c3 := call_dd (env := env) (i := 1) (j := 4) (d := x0) (e := x3) rfl rfl (h3 (by decide))
    have c4 := call_de (env := env) (i := 5) (d := x4) (e := .int 8) rfl (h4 (by decide))
    have c5 := call_de (env := env) (i := 6) (d := x5) (e := .int 40) rfl (h5 (by decide))
    exact ⟨fun_no ((seq_nx (chk (b := true) c0)).trans ((seq_nx (chk (b := true) c1)).trans ((seq_nx (chk (b := true) c2)).trans ((seq_nx (chk (b := true) c3)).trans ((seq_nx (chk (b := true) c4)).trans (seq_no (chk_no c5))))))), (zif_t c0).trans ((zif_t c1).trans ((zif_t c2).trans ((zif_t c3).trans ((zif_t c4).trans (zif_f c5)))))⟩
theorem eval_refused {x0 x1 x2 x3 x4 x5 : G.D} {k : Nat} (c : Ck Γ x0 x1 x2 x3 x4 x5 k) : f_law_refused (Γ := Γ) [.lst [x0, x1, x2, x3, x4, x5]] = some (.dat (.str (nmOf k)), [.lst [x0, x1, x2, x3, x4, x5]]) := by
  obtain ⟨e1, e2⟩ := ck_wrong c
  let env : Env Γ := [.lst [x0, x1, x2, x3, x4, x5], .dat .non, .none]
  have n := make6_no (Γ := Γ) (env := env) (ix_lst (b := 0) (k := 0) rfl rfl) (ix_lst (b := 0) (k := 1) rfl rfl) (ix_lst (b := 0) (k := 2) rfl rfl) (ix_lst (b := 0) (k := 3) rfl rfl) (ix_lst (b := 0) (k := 4) rfl rfl) (ix_lst (b := 0) (k := 5) rfl rfl) e1
  have z := z6 (Γ := Γ) (env := env) (ix_lst (b := 0) (k := 0) rfl rfl) (ix_lst (b := 0) (k := 1) rfl rfl) (ix_lst (b := 0) (k := 2) rfl rfl) (ix_lst (b := 0) (k := 3) rfl rfl) (ix_lst (b := 0) (k := 4) rfl rfl) (ix_lst (b := 0) (k := 5) rfl rfl) e2
  unfold f_law_refused b_law_refused
  refine (fun_rt (e' := [.lst [x0, x1, x2, x3, x4, x5], .none, .none]) rfl rfl ?_).trans rfl
  refine (seq_nx (e1 := env) rfl).trans ?_
  refine (seq_nx (e1 := [.lst [x0, x1, x2, x3, x4, x5], .dat (.str (nmOf k)), .none]) ?_).trans rfl
  unfold mTryR
  have n' := n
  have z' := z
  erw [n', z']
  rfl
theorem eval_caught {x0 x1 x2 x3 x4 x5 : G.D} {k : Nat} (c : Ck Γ x0 x1 x2 x3 x4 x5 k) : f_law_caught (Γ := Γ) [.lst [x0, x1, x2, x3, x4, x5]] = some (.dat (.bl true), [.lst [x0, x1, x2, x3, x4, x5]]) := by
  obtain ⟨e1, e2⟩ := ck_wrong c
  let env : Env Γ := [.lst [x0, x1, x2, x3, x4, x5]]
  have n := make6_no (Γ := Γ) (env := env) (ix_lst (b := 0) (k := 0) rfl rfl) (ix_lst (b := 0) (k := 1) rfl rfl) (ix_lst (b := 0) (k := 2) rfl rfl) (ix_lst (b := 0) (k := 3) rfl rfl) (ix_lst (b := 0) (k := 4) rfl rfl) (ix_lst (b := 0) (k := 5) rfl rfl) e1
  have z := z6 (Γ := Γ) (env := env) (ix_lst (b := 0) (k := 0) rfl rfl) (ix_lst (b := 0) (k := 1) rfl rfl) (ix_lst (b := 0) (k := 2) rfl rfl) (ix_lst (b := 0) (k := 3) rfl rfl) (ix_lst (b := 0) (k := 4) rfl rfl) (ix_lst (b := 0) (k := 5) rfl rfl) e2
  unfold f_law_caught b_law_caught
  refine (fun_rt (e' := [.lst [x0, x1, x2, x3, x4, x5]]) rfl rfl (seq_rt ?_)).trans rfl
  unfold mTryC
  erw [n, z]
theorem eval_refused_ok {C : Addr} (hC : Γ.cls 0 = some (C, NS)) {F : Fs} (hF : F.ok) : f_law_refused (Γ := Γ) [.lst F.D] = some (.dat .non, [.lst F.D]) := by
  obtain ⟨t, e⟩ := eval_init hC hF (a4 := .dat (.lst (F.as.map .int))) (b4 := .dat (.lst (F.as.map .int))) (a5 := .dat (.lst (F.ss.map strD))) (b5 := .dat (.lst (F.ss.map strD))) (a6 := .dat (.lst (F.ws.map strD))) (b6 := .dat (.lst (F.ws.map strD))) (.inr (.inl ⟨rfl, rfl⟩)) (.inl (by intro z; cases z)) (.inr (.inl ⟨rfl, rfl⟩)) (.inr (.inl ⟨rfl, rfl⟩))
  let env : Env Γ := [.lst F.D, .dat .non, .none]
  have n := make6 (Γ := Γ) (env := env) (ix_lst (b := 0) (k := 0) rfl rfl) (ix_lst (b := 0) (k := 1) rfl rfl) (ix_lst (b := 0) (k := 2) rfl rfl) (ix_lst (b := 0) (k := 3) rfl rfl) (ix_lst (b := 0) (k := 4) rfl rfl) (ix_lst (b := 0) (k := 5) rfl rfl) e
  unfold f_law_refused b_law_refused
  refine (fun_rt (e' := [.lst F.D, .none, .none]) rfl rfl ?_).trans rfl
  refine (seq_nx (e1 := env) rfl).trans ?_
  refine (seq_nx (e1 := env) ?_).trans rfl
  unfold mTryR
  erw [n]
end
end K

/-! M00i: wrong values; a letter is made -/
namespace K
open PySem L2 G
/-- what a wrong value for the field k does -/
def BadAt (Γ : Gam) (k : Nat) (x0 d : G.D) : Prop := match k with
  | 0 => f_is_number (Γ := Γ) [.dat d] = some (.dat (.bl false), [.dat d]) ∧ okN d
  | 1 => f_is_name (Γ := Γ) [.dat d] = some (.dat (.bl false), [.dat d])
  | 2 => f_is_name (Γ := Γ) [.dat d] = some (.dat (.bl false), [.dat d])
  | 3 => ∀ n, isNo n → x0 = .int n → f_fits_answers (Γ := Γ) [.dat (.int n), .dat d] = some (.dat (.bl false), [.dat (.int n), .dat d])
  | 4 => f_are_names (Γ := Γ) [.dat d, .dat (.int 8)] = some (.dat (.bl false), [.dat d, .dat (.int 8)])
  | _ => f_are_names (Γ := Γ) [.dat d, .dat (.int 40)] = some (.dat (.bl false), [.dat d, .dat (.int 40)])
section
variable {Γ : Gam}
theorem ix_at {f : Ev Γ} {ds : List G.D} {env e1 : Env Γ} {b : Nat} {s : Sl Γ} (hf : f env = some (.lst ds, e1)) (hb : e1[b]? = some s) (hs : isBag s) (m : Int) (hm : m = (ds.length : Int)) (h0 : 0 < m) (h1 : m < 2 ^ 200) : ∃ d s', d ∈ ds ∧ isBag s' ∧ m2 pIx (.ex f) (.ex (mCall 2 f_law_take [.brw b, .ex (mC (.int m))])) env = some (.dat d, e1.set b s') := by
  obtain ⟨r, s', r0, r1, b1, e⟩ := take_c (Γ := Γ) hb hs m h0 h1
  obtain ⟨d, hd, hx⟩ := ix_c (Γ := Γ) (ds := ds) r0 (by omega)
  exact ⟨d, s', List.mem_of_getElem? hd, b1, m2_ex hf e hx⟩
def bad0 (r : Int) : List G.D := [.int 0, .int (TOP + 1), .int (-1 - r), .bl true, .str "7", .non]
def bad1 : List G.D := [.str "", .str "abcdefghi", .str "Ann", .str "a b", .str "an9", .non, .int 5, .lst [.str "ann"]]
def nine : List G.D := (List.range 9).map fun (k : Nat) => .int (2000000000 + (k : Int))
def bad3 (x : G.D) : List G.D := [.lst [x], .lst [.int 12, .int 12], .lst [.int 4, .int 5, .int 4], .lst [.int 0], .lst [.bl true], .lst [.int (TOP + 1)], .lst [.str "3"], .str "34", .non, .odd, .int 5, .lst nine]
def bad4 (m : Nat) : List G.D := [.lst (List.replicate (m + 1) (.str "ab")), .lst [.str ""], .lst [.str "ok", .str "No"], .lst [.str "ok", .int 3], .str "ab", .non, .lst [.str "abcdefghi"], .odd, .int 7]
theorem bad0_is {r : Int} (h : 0 ≤ r) : ∀ d ∈ bad0 r, isNumD d = false ∧ okN d := fun d hd => by
  unfold bad0 at hd
  simp only [List.mem_cons, List.not_mem_nil, or_false] at hd
  rcases hd with rfl | rfl | rfl | rfl | rfl | rfl
  · exact ⟨rfl, trivial⟩
  · exact ⟨by show decide ((1 : Int) ≤ TOP + 1 ∧ TOP + 1 ≤ TOP) = false; exact decide_eq_false (by unfold TOP; omega), trivial⟩
  · exact ⟨by show decide ((1 : Int) ≤ -1 - r ∧ -1 - r ≤ TOP) = false; exact decide_eq_false (by omega), trivial⟩
  · exact ⟨rfl, trivial⟩
  · exact ⟨rfl, by show ("7" : Str).length ≤ 1000; decide +kernel⟩
  · exact ⟨rfl, trivial⟩
theorem bad1_is : ∀ d ∈ bad1, isNameD d = false ∧ okN d := fun d hd => by
  unfold bad1 at hd
  simp only [List.mem_cons, List.not_mem_nil, or_false] at hd
  rcases hd with rfl | rfl | rfl | rfl | rfl | rfl | rfl | rfl
  · exact ⟨by decide +kernel, by show ("" : Str).length ≤ 1000; decide +kernel⟩
  · exact ⟨by decide +kernel, by show ("abcdefghi" : Str).length ≤ 1000; decide +kernel⟩
  · exact ⟨by decide +kernel, by show ("Ann" : Str).length ≤ 1000; decide +kernel⟩
  · exact ⟨by decide +kernel, by show ("a b" : Str).length ≤ 1000; decide +kernel⟩
  · exact ⟨by decide +kernel, by show ("an9" : Str).length ≤ 1000; decide +kernel⟩
  · exact ⟨rfl, trivial⟩
  · exact ⟨rfl, trivial⟩
  · exact ⟨rfl, trivial⟩
theorem fits_ints {ns : List Int} {n : Int} (hm : ns.length ≤ 8) (h : ∀ i ∈ ns, isNo i) (hb : ¬ (n ∉ ns ∧ manyI ns = ns.length)) : f_fits_answers (Γ := Γ) [.dat (.int n), .dat (.lst (ns.map .int))] = some (.dat (.bl false), [.dat (.int n), .dat (.lst (ns.map .int))]) :=
  (eval_fits (a := .dat (.lst (ns.map .int))) (.inr (.inl ⟨rfl, rfl⟩)) (.inl (by intro z; cases z)) n hm h).trans (by rw [decide_eq_false hb])
theorem bad3_is {x : G.D} {n : Int} (hn : isNo n) (hx : x = .int n) : ∀ d ∈ bad3 x, f_fits_answers (Γ := Γ) [.dat (.int n), .dat d] = some (.dat (.bl false), [.dat (.int n), .dat d]) := fun d hd => by
  subst hx
  unfold bad3 at hd
  simp only [List.mem_cons, List.not_mem_nil, or_false] at hd
  rcases hd with rfl | rfl | rfl | rfl | rfl | rfl | rfl | rfl | rfl | rfl | rfl | rfl
  · exact fits_ints (ns := [n]) (by simp) (fun i hi => by rw [List.mem_singleton.mp hi]; exact hn) fun z => z.1 List.mem_cons_self
  · exact fits_ints (ns := [12, 12]) (by simp) (fun i hi => by simp at hi; subst hi; unfold isNo TOP; omega) fun z => absurd z.2 (by decide +kernel)
  · exact fits_ints (ns := [4, 5, 4]) (by simp) (fun i hi => by simp at hi; unfold isNo TOP; omega) fun z => absurd z.2 (by decide +kernel)
  · exact eval_fits_item _ (by simp) (fun d hd => by rw [List.mem_singleton.mp hd]; trivial) rfl
  · exact eval_fits_item _ (by simp) (fun d hd => by rw [List.mem_singleton.mp hd]; trivial) rfl
  · exact eval_fits_item _ (by simp) (fun d hd => by rw [List.mem_singleton.mp hd]; trivial) (by simp [isNumD]; unfold TOP; omega)
  · exact eval_fits_item _ (by simp) (fun d hd => by rw [List.mem_singleton.mp hd]; show ("3" : Str).length ≤ 1000; decide +kernel) rfl
  · exact eval_fits_no rfl _
  · exact eval_fits_no rfl _
  · exact eval_fits_no rfl _
  · exact eval_fits_no rfl _
  · exact eval_fits_long _ (by unfold nine; simp)
theorem are_item {ds : List G.D} {m : Int} (hm : (ds.length : Int) ≤ m) (hl : ds.length ≤ 1000) (h : ∀ d ∈ ds, okN d) (hb : ds.all isNameD = false) : f_are_names (Γ := Γ) [.dat (.lst ds), .dat (.int m)] = some (.dat (.bl false), [.dat (.lst ds), .dat (.int m)]) :=
  (eval_are (a := .dat (.lst ds)) (.inr (.inl ⟨rfl, rfl⟩)) hm hl h).trans (by rw [hb])
theorem bad4_is (m : Nat) (h8 : 8 ≤ m) : ∀ d ∈ bad4 m, f_are_names (Γ := Γ) [.dat d, .dat (.int m)] = some (.dat (.bl false), [.dat d, .dat (.int m)]) := fun d hd => by
  unfold bad4 at hd
  simp only [List.mem_cons, List.not_mem_nil, or_false] at hd
  have k0 : okN (.str "") := by show ("" : Str).length ≤ 1000; decide +kernel
  have k1 : okN (.str "ok") := by show ("ok" : Str).length ≤ 1000; decide +kernel
  have k2 : okN (.str "No") := by show ("No" : Str).length ≤ 1000; decide +kernel
  have k3 : okN (.str "abcdefghi") := by show ("abcdefghi" : Str).length ≤ 1000; decide +kernel
  rcases hd with rfl | rfl | rfl | rfl | rfl | rfl | rfl | rfl | rfl
  · exact eval_are_long (by rw [List.length_replicate]; omega)
  · exact are_item (by simp; omega) (by simp) (fun d hd => by rw [List.mem_singleton.mp hd]; exact k0) (by decide +kernel)
  · exact are_item (by simp; omega) (by simp) (fun d hd => by
      rcases List.mem_cons.mp hd with z | z
      · rw [z]; exact k1
      · rw [List.mem_singleton.mp z]; exact k2) (by decide +kernel)
  · exact are_item (by simp; omega) (by simp) (fun d hd => by
      rcases List.mem_cons.mp hd with z | z
      · rw [z]; exact k1
      · rw [List.mem_singleton.mp z]; trivial) (by decide +kernel)
  · exact eval_are_no rfl _
  · exact eval_are_no rfl _
  · exact are_item (by simp; omega) (by simp) (fun d hd => by rw [List.mem_singleton.mp hd]; exact k3) (by decide +kernel)
  · exact eval_are_no rfl _
  · exact eval_are_no rfl _
theorem ifs_eq {env : Env Γ} {i j : Int} {X : Es Γ} (h : env[1]? = some (.dat (.int i))) : mIfS (toT (m2 pEq (.brw 1) (.ex (mC (.int j))))) X mNx env = if i = j then X env else some (.nx, env) := by
  have c : toT (m2 pEq (.brw 1) (.ex (mC (.int j)))) env = some (decide (i = j), env) := by simp [mFun, mSeq, mIfS, toT, m1, m2, mN, evA, evAs, got, peek, peeks, pEq, pNe, pEqG, pLt, pLe, pGt, pGe, pOrd, pIx, Sl.view, mC, mVar, mRet, mNx, mSet, mDrop, mNotT, mNotE, mNotV, mAndT, mOrT, mAndV, mOrV, mIf, mT, truth, db, di, atI, ixN, okD_int, okD_bl, okD_non, eqD_int, eqD_str, eqD_bl, nonOwn, backE, List.replicate, mRetMv, mQ, evQ, getP, Fd.sl, pTupN, allDat, pN1, pN2, pI, cMod, cMul, cDiv, cPow, pMod, pMul, pDiv, pPow, pAdd, pSub, p0, pInt, pLen, mFrz, h]
  by_cases e : i = j
  · rw [decide_eq_true e] at c; rw [if_pos e]; exact ifs_t c
  · rw [decide_eq_false e] at c; rw [if_neg e]; exact ifs_f c
theorem ifs_lt {env : Env Γ} {i j : Int} {X : Es Γ} (h : env[1]? = some (.dat (.int i))) : mIfS (toT (m2 pLt (.brw 1) (.ex (mC (.int j))))) X mNx env = if i < j then X env else some (.nx, env) := by
  have c : toT (m2 pLt (.brw 1) (.ex (mC (.int j)))) env = some (decide (i < j), env) := by simp [mFun, mSeq, mIfS, toT, m1, m2, mN, evA, evAs, got, peek, peeks, pEq, pNe, pEqG, pLt, pLe, pGt, pGe, pOrd, pIx, Sl.view, mC, mVar, mRet, mNx, mSet, mDrop, mNotT, mNotE, mNotV, mAndT, mOrT, mAndV, mOrV, mIf, mT, truth, db, di, atI, ixN, okD_int, okD_bl, okD_non, eqD_int, eqD_str, eqD_bl, nonOwn, backE, List.replicate, mRetMv, mQ, evQ, getP, Fd.sl, pTupN, allDat, pN1, pN2, pI, cMod, cMul, cDiv, cPow, pMod, pMul, pDiv, pPow, pAdd, pSub, p0, pInt, pLen, mFrz, h]
  by_cases e : i < j
  · rw [decide_eq_true e] at c; rw [if_pos e]; exact ifs_t c
  · rw [decide_eq_false e] at c; rw [if_neg e]; exact ifs_f c
theorem m2_eb {p : Sl Γ → Sl Γ → Option (Sl Γ)} {f : Ev Γ} {i : Nat} {env e1 : Env Γ} {s t u : Sl Γ} (h1 : f env = some (s, e1)) (h2 : got e1[i]? = some t) (h3 : p s t = some u) : m2 p (.ex f) (.brw i) env = some (u, e1) := by
  simp only [m2, evA, h1, h2, Option.map_some, peek, h3]
theorem nine_eq {env : Env Γ} (h5 : env[5]? = some .none) : mFrz (mLc (iRng (mC (.int 9))) [5] (gNm 5) (fun env => some (true, env)) (mFrz (m2 pAdd (.ex (m2 pMul (.ex (mC (.int 2))) (.ex (m2 pPow (.ex (mC (.int 10))) (.ex (mC (.int 9))))))) (.brw 5)))) env = some (.dat (.lst nine), env) := by
  have lt : 5 < env.length := (List.getElem?_eq_some_iff.mp h5).1
  have hs : env.set 5 .none = env := by
    refine List.ext_getElem? fun k => ?_
    by_cases e : k = 5
    · subst e; rw [h5]; simp [lt]
    · rw [List.getElem?_set_ne (fun z => e z.symm)]
  have c := compL_map (Γ := Γ) (vs := [5]) (t := gNm 5) (env := env) (f := mFrz (m2 pAdd (.ex (m2 pMul (.ex (mC (.int 2))) (.ex (m2 pPow (.ex (mC (.int 10))) (.ex (mC (.int 9))))))) (.brw 5))) (fun d => match d with | .int k => .int (2000000000 + k) | _ => .non) ((List.range (9 : Int).toNat).map fun (k : Nat) => G.D.int (k : Int)) (fun d hd => by
    obtain ⟨k, _, rfl⟩ := List.mem_map.mp hd
    refine ⟨env.set 5 (.dat (.int k)), env.set 5 (.dat (.int k)), by unfold gNm; rw [if_pos lt], frz_dat ?_, ?_⟩
    · have z : m2 pMul (.ex (mC (.int 2))) (.ex (m2 pPow (.ex (mC (.int 10))) (.ex (mC (.int 9))))) (env.set 5 (.dat (.int k))) = some (.dat (.int 2000000000), env.set 5 (.dat (.int k))) := rfl
      have g5 : got (env.set 5 (.dat (.int k)))[5]? = some (.dat (.int k)) := by simp [lt, got]
      exact m2_eb z g5 rfl
    · have e : (env.set 5 (.dat (.int k))).set 5 .none = env := by rw [List.set_set]; exact hs
      simp [wipeE, wipeL, lt, nonOwn, e, -List.set_set])
  have wp : wipeE [5] env = some env := by simp [wipeE, wipeL, h5, nonOwn, hs]
  refine frz_lst ((lc_eq (rng_eq (f := mC (.int 9)) rfl (by decide) (by decide)) (by rw [iRng_len]; exact big (by decide)) wp c).trans ?_)
  have bk : backE env env [5] = env := by simp [backE, h5, hs]
  rw [bk, List.map_map]
  rfl
theorem list3 (s x : Sl Γ) (d : G.D) (s2 : Sl Γ) : mN pLstN [.ex (mFrz (mN pLstN [.ex (mVar 4)])), .ex (mFrz (mN pLstN [.ex (mC (.int 12)), .ex (mC (.int 12))])), .ex (mFrz (mN pLstN [.ex (mC (.int 4)), .ex (mC (.int 5)), .ex (mC (.int 4))])), .ex (mFrz (mN pLstN [.ex (mC (.int 0))])), .ex (mFrz (mN pLstN [.ex (mC (.bl true))])), .ex (mFrz (mN pLstN [.ex (mFrz (m2 pAdd (.ex (m2 pPow (.ex (mC (.int 10))) (.ex (mC (.int 30))))) (.ex (mC (.int 1)))))])), .ex (mFrz (mN pLstN [.ex (mC (.str "3"))])), .ex (mC (.str "34")), .ex (mC .non), .ex (mC .odd), .ex (mC (.int 5)), .ex (mFrz (mLc (iRng (mC (.int 9))) [5] (gNm 5) (fun env => some (true, env)) (mFrz (m2 pAdd (.ex (m2 pMul (.ex (mC (.int 2))) (.ex (m2 pPow (.ex (mC (.int 10))) (.ex (mC (.int 9))))))) (.brw 5)))))] ([s, x, s2, .dat (.str "abcdefghi"), .dat d, .none, .none] : Env Γ) = some (.lst (bad3 d), [s, x, s2, .dat (.str "abcdefghi"), .dat d, .none, .none]) := by
  have nn := nine_eq (Γ := Γ) (env := [s, x, s2, .dat (.str "abcdefghi"), .dat d, .none, .none]) rfl
  refine lst_N (xs := [.val (.dat (.lst [d])), .val (.dat (.lst [.int 12, .int 12])), .val (.dat (.lst [.int 4, .int 5, .int 4])), .val (.dat (.lst [.int 0])), .val (.dat (.lst [.bl true])), .val (.dat (.lst [.int (TOP + 1)])), .val (.dat (.lst [.str "3"])), .val (.dat (.str "34")), .val (.dat .non), .val (.dat .odd), .val (.dat (.int 5)), .val (.dat (.lst nine))]) ?_ rfl (big (Nat.le_of_ble_eq_true rfl))
  have a0 : mFrz (mN pLstN [.ex (mVar 4)]) ([s, x, s2, .dat (.str "abcdefghi"), .dat d, .none, .none] : Env Γ) = some (.dat (.lst [d]), [s, x, s2, .dat (.str "abcdefghi"), .dat d, .none, .none]) := rfl
  have a1 : mFrz (mN pLstN [.ex (mC (.int 12)), .ex (mC (.int 12))]) ([s, x, s2, .dat (.str "abcdefghi"), .dat d, .none, .none] : Env Γ) = some (.dat (.lst [.int 12, .int 12]), [s, x, s2, .dat (.str "abcdefghi"), .dat d, .none, .none]) := rfl
  have a2 : mFrz (mN pLstN [.ex (mC (.int 4)), .ex (mC (.int 5)), .ex (mC (.int 4))]) ([s, x, s2, .dat (.str "abcdefghi"), .dat d, .none, .none] : Env Γ) = some (.dat (.lst [.int 4, .int 5, .int 4]), [s, x, s2, .dat (.str "abcdefghi"), .dat d, .none, .none]) := rfl
  have a3 : ∀ y : G.D, mFrz (mN pLstN [.ex (mC y)]) ([s, x, s2, .dat (.str "abcdefghi"), .dat d, .none, .none] : Env Γ) = some (.dat (.lst [y]), [s, x, s2, .dat (.str "abcdefghi"), .dat d, .none, .none]) := fun y => rfl
  have a5 : mFrz (mN pLstN [.ex (mFrz (m2 pAdd (.ex (m2 pPow (.ex (mC (.int 10))) (.ex (mC (.int 30))))) (.ex (mC (.int 1)))))]) ([s, x, s2, .dat (.str "abcdefghi"), .dat d, .none, .none] : Env Γ) = some (.dat (.lst [.int (TOP + 1)]), [s, x, s2, .dat (.str "abcdefghi"), .dat d, .none, .none]) := rfl
  have c0 : ∀ y : G.D, mC y ([s, x, s2, .dat (.str "abcdefghi"), .dat d, .none, .none] : Env Γ) = some (.dat y, [s, x, s2, .dat (.str "abcdefghi"), .dat d, .none, .none]) := fun y => rfl
  simp only [evAs, evA, a0, a1, a2, a3, a5, c0, nn, Option.map_some]
theorem eval_bad {s : Sl Γ} (hs : isBag s) (k : Nat) (hk : k ≤ 5) {x0 x1 x2 x3 x4 x5 : G.D} (h0 : okN x0) : ∃ d s', isBag s' ∧ BadAt Γ k x0 d ∧ f_law_bad (Γ := Γ) [s, .dat (.int k), .lst [x0, x1, x2, x3, x4, x5]] = some (.dat d, [s', .dat (.int k), .lst [x0, x1, x2, x3, x4, x5]]) := by
  have q1 : mSet 3 (mC (.str "abcdefghi")) ([s, .dat (.int k), .lst [x0, x1, x2, x3, x4, x5]] ++ List.replicate 4 .none) = some (.nx, ([s, .dat (.int k), .lst [x0, x1, x2, x3, x4, x5], .dat (.str "abcdefghi"), .none, .none, .none] : Env Γ)) := rfl
  unfold f_law_bad b_law_bad
  by_cases k0 : k = 0
  · subst k0
    obtain ⟨r, s1, r0, r1, b1, e1⟩ := take_c (Γ := Γ) (env := [s, .dat (.int 0), .lst [x0, x1, x2, x3, x4, x5], .dat (.str "abcdefghi"), .none, .none, .none]) (b := 0) rfl hs 99 (by decide) (by decide)
    have l1 : mN pLstN [.ex (mC (.int 0)), .ex (mFrz (m2 pAdd (.ex (m2 pPow (.ex (mC (.int 10))) (.ex (mC (.int 30))))) (.ex (mC (.int 1))))), .ex (m2 pSub (.ex (m1 pNeg (.ex (mC (.int 1))))) (.ex (mCall 2 f_law_take [.brw 0, .ex (mC (.int 99))]))), .ex (mC (.bl true)), .ex (mC (.str "7")), .ex (mC .non)] [s, .dat (.int 0), .lst [x0, x1, x2, x3, x4, x5], .dat (.str "abcdefghi"), .none, .none, .none] = some (.lst (bad0 r), [s1, .dat (.int 0), .lst [x0, x1, x2, x3, x4, x5], .dat (.str "abcdefghi"), .none, .none, .none]) := by
      have z1 : mFrz (m2 pAdd (.ex (m2 pPow (.ex (mC (.int 10))) (.ex (mC (.int 30))))) (.ex (mC (.int 1)))) ([s, .dat (.int 0), .lst [x0, x1, x2, x3, x4, x5], .dat (.str "abcdefghi"), .none, .none, .none] : Env Γ) = some (.dat (.int (TOP + 1)), [s, .dat (.int 0), .lst [x0, x1, x2, x3, x4, x5], .dat (.str "abcdefghi"), .none, .none, .none]) := rfl
      have z2 : m2 pSub (.ex (m1 pNeg (.ex (mC (.int 1))))) (.ex (mCall 2 f_law_take [.brw 0, .ex (mC (.int 99))])) [s, .dat (.int 0), .lst [x0, x1, x2, x3, x4, x5], .dat (.str "abcdefghi"), .none, .none, .none] = some (.dat (.int (-1 - r)), [s1, .dat (.int 0), .lst [x0, x1, x2, x3, x4, x5], .dat (.str "abcdefghi"), .none, .none, .none]) := m2_ex rfl e1 rfl
      refine lst_N (xs := [.val (.dat (.int 0)), .val (.dat (.int (TOP + 1))), .val (.dat (.int (-1 - r))), .val (.dat (.bl true)), .val (.dat (.str "7")), .val (.dat .non)]) ?_ rfl (big (Nat.le_of_ble_eq_true rfl))
      simp only [evAs, evA, mC, z1, z2, Option.map_some]
    obtain ⟨d, s2, hd, b2, e2⟩ := ix_at l1 (b := 0) (s := s1) rfl b1 6 rfl (by decide) (by decide)
    obtain ⟨p1, p2⟩ := bad0_is r0 d hd
    refine ⟨d, s2, b2, ⟨(eval_is_number p2).trans (by rw [p1]), p2⟩, ?_⟩
    refine (fun_rt (e' := [s2, .dat (.int 0), .lst [x0, x1, x2, x3, x4, x5], .dat (.str "abcdefghi"), .none, .none, .none]) rfl rfl ?_).trans rfl
    refine (seq_nx q1).trans (seq_rt ?_)
    refine (ifs_eq (i := 0) rfl).trans ?_
    exact ret_eq e2
  have k0' : ¬ (k : Int) = 0 := fun z => k0 (by omega)
  by_cases k3 : k < 3
  · have l1 : mN pLstN [.ex (mC (.str "")), .ex (mVar 3), .ex (mC (.str "Ann")), .ex (mC (.str "a b")), .ex (mC (.str "an9")), .ex (mC .non), .ex (mC (.int 5)), .ex (mFrz (mN pLstN [.ex (mC (.str "ann"))]))] ([s, .dat (.int k), .lst [x0, x1, x2, x3, x4, x5], .dat (.str "abcdefghi"), .none, .none, .none] : Env Γ) = some (.lst bad1, [s, .dat (.int k), .lst [x0, x1, x2, x3, x4, x5], .dat (.str "abcdefghi"), .none, .none, .none]) := rfl
    obtain ⟨d, s2, hd, b2, e2⟩ := ix_at l1 (b := 0) (s := s) rfl hs 8 rfl (by decide) (by decide)
    obtain ⟨p1, p2⟩ := bad1_is d hd
    have nb := (eval_is_name (Γ := Γ) p2).trans (by rw [p1])
    refine ⟨d, s2, b2, ?_, ?_⟩
    · match k, k0, k3 with
      | 1, _, _ => exact nb
      | 2, _, _ => exact nb
    refine (fun_rt (e' := [s2, .dat (.int k), .lst [x0, x1, x2, x3, x4, x5], .dat (.str "abcdefghi"), .none, .none, .none]) rfl rfl ?_).trans rfl
    refine (seq_nx q1).trans ((seq_nx ((ifs_eq (i := k) rfl).trans (if_neg k0'))).trans (seq_rt ?_))
    refine (ifs_lt (i := k) rfl).trans ((if_pos (by omega)).trans ?_)
    exact ret_eq e2
  have k3' : ¬ (k : Int) < 3 := by omega
  by_cases k4 : k = 3
  · subst k4
    have ci : ∃ x, (∀ n, x0 = .int n → x = .int n) ∧ mSet 4 (mIf (mT (.ex (m1 (pIsi "int") (.ex (m2 pIx (.brw 2) (.ex (mC (.int 0)))))))) (m2 pIx (.brw 2) (.ex (mC (.int 0)))) (mC (.int 3))) ([s, .dat (.int 3), .lst [x0, x1, x2, x3, x4, x5], .dat (.str "abcdefghi"), .none, .none, .none] : Env Γ) = some (.nx, [s, .dat (.int 3), .lst [x0, x1, x2, x3, x4, x5], .dat (.str "abcdefghi"), .dat x, .none, .none]) := by
      cases x0 with
      | ins _ _ => exact h0.elim
      | int n => exact ⟨.int n, fun m e => e, by simp [mFun, mSeq, mIfS, toT, m1, m2, mN, evA, evAs, got, peek, peeks, pEq, pNe, pEqG, pLt, pLe, pGt, pGe, pOrd, pIx, Sl.view, mC, mVar, mRet, mNx, mSet, mDrop, mNotT, mNotE, mNotV, mAndT, mOrT, mAndV, mOrV, mIf, mT, truth, db, di, atI, ixN, okD_int, okD_bl, okD_non, eqD_int, eqD_str, eqD_bl, nonOwn, backE, List.replicate, mRetMv, mQ, evQ, getP, Fd.sl, pTupN, allDat, pN1, pN2, pI, cMod, cMul, cDiv, cPow, pMod, pMul, pDiv, pPow, pAdd, pSub, p0, pInt, pLen, mFrz, pIsi, isT]⟩
      | bl b => exact ⟨.bl b, fun m e => (nomatch e), by simp [mFun, mSeq, mIfS, toT, m1, m2, mN, evA, evAs, got, peek, peeks, pEq, pNe, pEqG, pLt, pLe, pGt, pGe, pOrd, pIx, Sl.view, mC, mVar, mRet, mNx, mSet, mDrop, mNotT, mNotE, mNotV, mAndT, mOrT, mAndV, mOrV, mIf, mT, truth, db, di, atI, ixN, okD_int, okD_bl, okD_non, eqD_int, eqD_str, eqD_bl, nonOwn, backE, List.replicate, mRetMv, mQ, evQ, getP, Fd.sl, pTupN, allDat, pN1, pN2, pI, cMod, cMul, cDiv, cPow, pMod, pMul, pDiv, pPow, pAdd, pSub, p0, pInt, pLen, mFrz, pIsi, isT]⟩
      | non => exact ⟨.int 3, fun m e => (nomatch e), by simp [mFun, mSeq, mIfS, toT, m1, m2, mN, evA, evAs, got, peek, peeks, pEq, pNe, pEqG, pLt, pLe, pGt, pGe, pOrd, pIx, Sl.view, mC, mVar, mRet, mNx, mSet, mDrop, mNotT, mNotE, mNotV, mAndT, mOrT, mAndV, mOrV, mIf, mT, truth, db, di, atI, ixN, okD_int, okD_bl, okD_non, eqD_int, eqD_str, eqD_bl, nonOwn, backE, List.replicate, mRetMv, mQ, evQ, getP, Fd.sl, pTupN, allDat, pN1, pN2, pI, cMod, cMul, cDiv, cPow, pMod, pMul, pDiv, pPow, pAdd, pSub, p0, pInt, pLen, mFrz, pIsi, isT]⟩
      | str _ => exact ⟨.int 3, fun m e => (nomatch e), by simp [mFun, mSeq, mIfS, toT, m1, m2, mN, evA, evAs, got, peek, peeks, pEq, pNe, pEqG, pLt, pLe, pGt, pGe, pOrd, pIx, Sl.view, mC, mVar, mRet, mNx, mSet, mDrop, mNotT, mNotE, mNotV, mAndT, mOrT, mAndV, mOrV, mIf, mT, truth, db, di, atI, ixN, okD_int, okD_bl, okD_non, eqD_int, eqD_str, eqD_bl, nonOwn, backE, List.replicate, mRetMv, mQ, evQ, getP, Fd.sl, pTupN, allDat, pN1, pN2, pI, cMod, cMul, cDiv, cPow, pMod, pMul, pDiv, pPow, pAdd, pSub, p0, pInt, pLen, mFrz, pIsi, isT]⟩
      | tup _ => exact ⟨.int 3, fun m e => (nomatch e), by simp [mFun, mSeq, mIfS, toT, m1, m2, mN, evA, evAs, got, peek, peeks, pEq, pNe, pEqG, pLt, pLe, pGt, pGe, pOrd, pIx, Sl.view, mC, mVar, mRet, mNx, mSet, mDrop, mNotT, mNotE, mNotV, mAndT, mOrT, mAndV, mOrV, mIf, mT, truth, db, di, atI, ixN, okD_int, okD_bl, okD_non, eqD_int, eqD_str, eqD_bl, nonOwn, backE, List.replicate, mRetMv, mQ, evQ, getP, Fd.sl, pTupN, allDat, pN1, pN2, pI, cMod, cMul, cDiv, cPow, pMod, pMul, pDiv, pPow, pAdd, pSub, p0, pInt, pLen, mFrz, pIsi, isT]⟩
      | lst _ => exact ⟨.int 3, fun m e => (nomatch e), by simp [mFun, mSeq, mIfS, toT, m1, m2, mN, evA, evAs, got, peek, peeks, pEq, pNe, pEqG, pLt, pLe, pGt, pGe, pOrd, pIx, Sl.view, mC, mVar, mRet, mNx, mSet, mDrop, mNotT, mNotE, mNotV, mAndT, mOrT, mAndV, mOrV, mIf, mT, truth, db, di, atI, ixN, okD_int, okD_bl, okD_non, eqD_int, eqD_str, eqD_bl, nonOwn, backE, List.replicate, mRetMv, mQ, evQ, getP, Fd.sl, pTupN, allDat, pN1, pN2, pI, cMod, cMul, cDiv, cPow, pMod, pMul, pDiv, pPow, pAdd, pSub, p0, pInt, pLen, mFrz, pIsi, isT]⟩
      | odd => exact ⟨.int 3, fun m e => (nomatch e), by simp [mFun, mSeq, mIfS, toT, m1, m2, mN, evA, evAs, got, peek, peeks, pEq, pNe, pEqG, pLt, pLe, pGt, pGe, pOrd, pIx, Sl.view, mC, mVar, mRet, mNx, mSet, mDrop, mNotT, mNotE, mNotV, mAndT, mOrT, mAndV, mOrV, mIf, mT, truth, db, di, atI, ixN, okD_int, okD_bl, okD_non, eqD_int, eqD_str, eqD_bl, nonOwn, backE, List.replicate, mRetMv, mQ, evQ, getP, Fd.sl, pTupN, allDat, pN1, pN2, pI, cMod, cMul, cDiv, cPow, pMod, pMul, pDiv, pPow, pAdd, pSub, p0, pInt, pLen, mFrz, pIsi, isT]⟩
    obtain ⟨x, hx, q4⟩ := ci
    have l1 := list3 (Γ := Γ) s (.dat (.int 3)) x (.lst [x0, x1, x2, x3, x4, x5])
    obtain ⟨d, s2, hd, b2, e2⟩ := ix_at l1 (b := 0) (s := s) rfl hs 12 rfl (by decide) (by decide)
    refine ⟨d, s2, b2, fun n hn e => bad3_is hn (hx n e) d hd, ?_⟩
    refine (fun_rt (e' := [s2, .dat (.int 3), .lst [x0, x1, x2, x3, x4, x5], .dat (.str "abcdefghi"), .dat x, .none, .none]) rfl rfl ?_).trans rfl
    refine (seq_nx q1).trans ((seq_nx ((ifs_eq (i := 3) rfl).trans (if_neg (by decide)))).trans ((seq_nx ((ifs_lt (i := 3) rfl).trans (if_neg (by decide)))).trans (seq_rt ?_)))
    refine (ifs_eq (i := 3) rfl).trans ((if_pos rfl).trans ?_)
    exact (seq_nx q4).trans (ret_eq e2)
  · have hm : k = 4 ∨ k = 5 := by omega
    have big4 : ∀ (k : Int) (m : Nat), (k = 4 ∧ m = 8) ∨ (k = 5 ∧ m = 40) → ∃ d s', isBag s' ∧ d ∈ bad4 m ∧ mFun 3 4 [3, 4, 6] (b_law_bad (Γ := Γ)) [s, .dat (.int k), .lst [x0, x1, x2, x3, x4, x5]] = some (.dat d, [s', .dat (.int k), .lst [x0, x1, x2, x3, x4, x5]]) := by
      intro k m hkm
      have n0 : ¬ k = 0 := by omega
      have n3 : ¬ k < 3 := by omega
      have n3' : ¬ k = 3 := by omega
      have q6 : mSet 6 (m2 pIx (.ex (mN pLstN [.ex (mC (.int 8)), .ex (mC (.int 40))])) (.ex (m2 pSub (.brw 1) (.ex (mC (.int 4)))))) ([s, .dat (.int k), .lst [x0, x1, x2, x3, x4, x5], .dat (.str "abcdefghi"), .none, .none, .none] : Env Γ) = some (.nx, [s, .dat (.int k), .lst [x0, x1, x2, x3, x4, x5], .dat (.str "abcdefghi"), .none, .none, .dat (.int m)]) := by
        rcases hkm with ⟨rfl, rfl⟩ | ⟨rfl, rfl⟩ <;> rfl
      have l1 : mN pLstN [.ex (mFrz (m2 pRep (.ex (mN pLstN [.ex (mC (.str "ab"))])) (.ex (m2 pAdd (.brw 6) (.ex (mC (.int 1))))))), .ex (mFrz (mN pLstN [.ex (mC (.str ""))])), .ex (mFrz (mN pLstN [.ex (mC (.str "ok")), .ex (mC (.str "No"))])), .ex (mFrz (mN pLstN [.ex (mC (.str "ok")), .ex (mC (.int 3))])), .ex (mC (.str "ab")), .ex (mC .non), .ex (mFrz (mN pLstN [.ex (mVar 3)])), .ex (mC .odd), .ex (mC (.int 7))] ([s, .dat (.int k), .lst [x0, x1, x2, x3, x4, x5], .dat (.str "abcdefghi"), .none, .none, .dat (.int m)] : Env Γ) = some (.lst (bad4 m), [s, .dat (.int k), .lst [x0, x1, x2, x3, x4, x5], .dat (.str "abcdefghi"), .none, .none, .dat (.int m)]) := by
        rcases hkm with ⟨rfl, rfl⟩ | ⟨rfl, rfl⟩ <;> rfl
      obtain ⟨d, s2, hd, b2, e2⟩ := ix_at l1 (b := 0) (s := s) rfl hs 9 rfl (by decide) (by decide)
      refine ⟨d, s2, b2, hd, ?_⟩
      unfold b_law_bad
      refine (fun_rt (e' := [s2, .dat (.int k), .lst [x0, x1, x2, x3, x4, x5], .dat (.str "abcdefghi"), .none, .none, .dat (.int m)]) rfl rfl ?_).trans rfl
      refine (seq_nx (e1 := [s, .dat (.int k), .lst [x0, x1, x2, x3, x4, x5], .dat (.str "abcdefghi"), .none, .none, .none]) rfl).trans ((seq_nx ((ifs_eq (i := k) rfl).trans (if_neg n0))).trans ((seq_nx ((ifs_lt (i := k) rfl).trans (if_neg n3))).trans ((seq_nx ((ifs_eq (i := k) rfl).trans (if_neg n3'))).trans ((seq_nx q6).trans (ret_eq e2)))))
    rcases hm with rfl | rfl
    · obtain ⟨d, s2, b2, hd, e⟩ := big4 4 8 (.inl ⟨rfl, rfl⟩)
      exact ⟨d, s2, b2, bad4_is 8 (by decide) d hd, e⟩
    · obtain ⟨d, s2, b2, hd, e⟩ := big4 5 40 (.inr ⟨rfl, rfl⟩)
      exact ⟨d, s2, b2, bad4_is 40 (by decide) d hd, e⟩
end
end K

/-! M00j: what is told of names; a letter is made and told -/
namespace K
open PySem L2 G
section
variable {Γ : Gam}
theorem not_t {call : Ev Γ} {env env' : Env Γ} {b : Bool} (h : call env = some (.dat (.bl b), env')) : mNotT (mT (.ex call)) env = some (!b, env') := by
  simp [mNotT, mT, evA, h, peek, truth, Sl.view]
theorem tr_t {call : Ev Γ} {env env' : Env Γ} {b : Bool} (h : call env = some (.dat (.bl b), env')) : mT (.ex call) env = some (b, env') := by
  simp [mT, evA, h, peek, truth, Sl.view]
theorem or_f {f g : Et Γ} {env e1 : Env Γ} (h : f env = some (false, e1)) : mOrT f g env = g e1 := by unfold mOrT; rw [h]
theorem ifs_no {c : Et Γ} {X : Es Γ} {env e1 : Env Γ} (h : c env = some (false, e1)) : mIfS c X mNx env = some (.nx, e1) := (ifs_f h).trans rfl
theorem no_sign {a : List Nat} {c : Nat} (hc : c ∈ a) (h : ¬ (97 ≤ c ∧ c ≤ 122)) : nm a = false := by
  unfold nm
  have : (a.all fun c => decide (97 ≤ c ∧ c ≤ 122)) = false := by
    rw [List.all_eq_false]
    exact ⟨c, hc, by simpa using h⟩
  rw [this, Bool.and_false]
theorem eval_told {F : Fs} (hF : F.ok) : f_law_are_told (Γ := Γ) [.lst F.D] = some (.dat (.bl true), [.lst F.D]) := by
  have lp := hF.p.l8
  have lp1 := hF.p.l1
  have lh := hF.h.l8
  let env : Env Γ := [.lst F.D, .none, .none]
  have okp : okN (strD F.p) := by show (SX.S F.p).length ≤ 1000; rw [SX.S_len]; omega
  have okh : okN (strD F.h) := by show (SX.S F.h).length ≤ 1000; rw [SX.S_len]; omega
  have ip : f_is_name (Γ := Γ) [.dat (strD F.p)] = some (.dat (.bl true), [.dat (strD F.p)]) := (eval_is_name okp).trans (by rw [isN_nm hF.p])
  have ih : f_is_name (Γ := Γ) [.dat (strD F.h)] = some (.dat (.bl true), [.dat (strD F.h)]) := (eval_is_name okh).trans (by rw [isN_nm hF.h])
  have i0 : f_is_number (Γ := Γ) [.dat (.int F.n)] = some (.dat (.bl true), [.dat (.int F.n)]) := (eval_is_number (d := .int F.n) trivial).trans (by rw [show isNumD (.int F.n) = true from decide_eq_true hF.n])
  have j1 : f_is_number (Γ := Γ) [.dat (strD F.p)] = some (.dat (.bl false), [.dat (strD F.p)]) := eval_is_number okp
  have j0 : f_is_name (Γ := Γ) [.dat (.int F.n)] = some (.dat (.bl false), [.dat (.int F.n)]) := eval_is_name trivial
  have g0 : ∀ s1 : Sl Γ, m2 pIx (.brw 0) (.ex (mC (.int 0))) [.lst F.D, s1, .none] = some (.dat (.int F.n), [.lst F.D, s1, .none]) := fun s1 => ix_lst (b := 0) (k := 0) rfl rfl
  have g1 : ∀ s1 : Sl Γ, m2 pIx (.brw 0) (.ex (mC (.int 1))) [.lst F.D, s1, .none] = some (.dat (strD F.p), [.lst F.D, s1, .none]) := fun s1 => ix_lst (b := 0) (k := 1) rfl rfl
  have g2 : ∀ s1 : Sl Γ, m2 pIx (.brw 0) (.ex (mC (.int 2))) [.lst F.D, s1, .none] = some (.dat (strD F.h), [.lst F.D, s1, .none]) := fun s1 => ix_lst (b := 0) (k := 2) rfl rfl
  have q1 : mIfS (mOrT (mNotT (mT (.ex (mCall 1 f_is_name [.ex (m2 pIx (.brw 0) (.ex (mC (.int 1))))])))) (mOrT (mNotT (mT (.ex (mCall 1 f_is_name [.ex (m2 pIx (.brw 0) (.ex (mC (.int 2))))])))) (mOrT (mNotT (mT (.ex (mCall 1 f_is_number [.ex (m2 pIx (.brw 0) (.ex (mC (.int 0))))])))) (mT (.ex (mCall 1 f_is_number [.ex (m2 pIx (.brw 0) (.ex (mC (.int 1))))])))))) (mRet (mC (.bl false))) (mNx) env = some (.nx, env) :=
    ifs_no ((or_f (not_t (call_ex (g1 _) ip))).trans ((or_f (not_t (call_ex (g2 _) ih))).trans ((or_f (not_t (call_ex (g0 _) i0))).trans (tr_t (call_ex (g1 _) j1)))))
  -- the odd ones
  have dl : ("-" : Str).length = 1 := by decide +kernel
  have dash : ("-" : Str) = SX.S [45] := by decide +kernel
  have ad : mFrz (m2 pAdd (.ex (m2 pIx (.brw 0) (.ex (mC (.int 1))))) (.ex (mC (.str "-")))) env = some (.dat (strD (F.p ++ [45])), env) := by
    refine frz_dat (m2_ex (g1 _) rfl ?_)
    have c1 : (SX.S F.p).length + ("-" : Str).length ≤ sizeLine := by rw [SX.S_len, dl]; exact big (by omega)
    have : pAdd (Γ := Γ) (.dat (strD F.p)) (.dat (.str "-")) = some (.dat (.str (SX.S F.p ++ "-"))) := if_pos c1
    rw [this, dash, SX.S_cat]
    rfl
  have up : mFrz (mUp (m2 pIx (.brw 0) (.ex (mC (.int 1))))) env = some (.dat (strD (F.p.map PyProof.Rows.up1)), env) := by
    refine frz_dat ?_
    have hu : Txt.upper (SX.S F.p) = SX.S (F.p.map PyProof.Rows.up1) := SX.upper_S (List.all_eq_true.mpr fun c hc => decide_eq_true (by have := hF.p.let_ c hc; omega))
    have hl : (SX.S F.p).length ≤ 5592405 := by rw [SX.S_len]; omega
    unfold mUp
    rw [g1]
    show (if (SX.S F.p).length ≤ 5592405 then some (Sl.dat (.str (Txt.upper (SX.S F.p))), env) else none) = _
    rw [if_pos hl, hu]
    rfl
  let odd : List G.D := [.str "", .str "abcdefghi", .str "Ann", .str "a b", .str "an9", .non, .int 5, .lst [.str "ann"], strD (F.p ++ [45]), strD (F.p.map PyProof.Rows.up1), .bl true]
  have q2 : mSet 1 (mN pLstN [.ex (mC (.str "")), .ex (mC (.str "abcdefghi")), .ex (mC (.str "Ann")), .ex (mC (.str "a b")), .ex (mC (.str "an9")), .ex (mC .non), .ex (mC (.int 5)), .ex (mFrz (mN pLstN [.ex (mC (.str "ann"))])), .ex (mFrz (m2 pAdd (.ex (m2 pIx (.brw 0) (.ex (mC (.int 1))))) (.ex (mC (.str "-"))))), .ex (mFrz (mUp (m2 pIx (.brw 0) (.ex (mC (.int 1)))))), .ex (mC (.bl true))]) env = some (.nx, [.lst F.D, .lst odd, .none]) := by
    have an : mFrz (mN pLstN [.ex (mC (.str "ann"))]) env = some (.dat (.lst [.str "ann"]), env) := rfl
    have c0 : ∀ y : G.D, mC y env = some (.dat y, env) := fun y => rfl
    refine (set_eq (e1 := env) (s := .lst odd) (lst_N (ds := odd) (xs := [.val (.dat (.str "")), .val (.dat (.str "abcdefghi")), .val (.dat (.str "Ann")), .val (.dat (.str "a b")), .val (.dat (.str "an9")), .val (.dat .non), .val (.dat (.int 5)), .val (.dat (.lst [.str "ann"])), .val (.dat (strD (F.p ++ [45]))), .val (.dat (strD (F.p.map PyProof.Rows.up1))), .val (.dat (.bl true))]) ?_ rfl (big (Nat.le_of_ble_eq_true rfl))) (Nat.le_of_ble_eq_true rfl)).trans rfl
    simp only [evAs, evA, c0, an, ad, up, Option.map_some]
  have hodd : ∀ d ∈ odd, isNameD d = false ∧ okN d := fun d hd => by
    have hd' : d ∈ bad1 ∨ d = strD (F.p ++ [45]) ∨ d = strD (F.p.map PyProof.Rows.up1) ∨ d = .bl true := by
      simp only [odd, List.mem_cons, List.not_mem_nil, or_false] at hd
      unfold bad1
      simp only [List.mem_cons, List.not_mem_nil, or_false]
      rcases hd with h | h | h | h | h | h | h | h | h | h | h <;> simp [h]
    rcases hd' with h | rfl | rfl | rfl
    · exact bad1_is d h
    · exact ⟨no_sign (a := F.p ++ [45]) (c := 45) (by simp) (by omega), by show (SX.S (F.p ++ [45])).length ≤ 1000; rw [SX.S_len, List.length_append]; simp; omega⟩
    · refine ⟨?_, by show (SX.S (F.p.map PyProof.Rows.up1)).length ≤ 1000; rw [SX.S_len, List.length_map]; omega⟩
      cases hp : F.p with
      | nil => rw [hp] at lp1; simp at lp1
      | cons c r =>
        have hc := hF.p.let_ c (by rw [hp]; exact List.mem_cons_self)
        refine no_sign (a := (c :: r).map PyProof.Rows.up1) (c := PyProof.Rows.up1 c) (by simp) ?_
        unfold PyProof.Rows.up1
        rw [if_pos hc]
        omega
    · exact ⟨rfl, trivial⟩
  have cm := comp_isn (Γ := Γ) (env := [.lst F.D, .dat (.lst odd), .none]) (v := 2) (Nat.le_of_ble_eq_true rfl) rfl odd fun d hd => (hodd d hd).2
  have an := any_eq (lc_eq (fi := iSeq (mVar 1)) (env := [.lst F.D, .lst odd, .none]) (e1 := [.lst F.D, .dat (.lst odd), .none]) (vs := [2]) rfl (big (Nat.le_of_ble_eq_true rfl)) rfl cm)
  have af : odd.any isNameD = false := List.any_eq_false.mpr fun d hd => by rw [(hodd d hd).1]; simp
  rw [af] at an
  have q3 : mIfS (mOrT (mT (.ex (mN (pN1 pAny) [.ex (mLc (iSeq (mVar 1)) [2] (gNm 2) (fun env => some (true, env)) (mFrz (mCall 1 f_is_name [.brw 2])))]))) (mT (.ex (mCall 1 f_is_name [.ex (m2 pIx (.brw 0) (.ex (mC (.int 0))))])))) (mRet (mC (.bl false))) (mNx) ([.lst F.D, .lst odd, .none] : Env Γ) = some (.nx, [.lst F.D, .dat (.lst odd), .none]) :=
    ifs_no ((or_f (tr_t an)).trans (tr_t (call_ex (g0 _) j0)))
  -- no numbers
  let nn : List G.D := [.int 0, .int (TOP + 1), .int (-F.n), .bl true, .str "7", .non, .lst [.int 1]]
  let env2 : Env Γ := [.lst F.D, .dat (.lst odd), .none]
  have l2 : iSeq (mFrz (mN pLstN [.ex (mC (.int 0)), .ex (mFrz (m2 pAdd (.ex (m2 pPow (.ex (mC (.int 10))) (.ex (mC (.int 30))))) (.ex (mC (.int 1))))), .ex (m1 pNeg (.ex (m2 pIx (.brw 0) (.ex (mC (.int 0)))))), .ex (mC (.bl true)), .ex (mC (.str "7")), .ex (mC .non), .ex (mFrz (mN pLstN [.ex (mC (.int 1))]))])) env2 = some (nn, env2) := by
    have z1 : mFrz (m2 pAdd (.ex (m2 pPow (.ex (mC (.int 10))) (.ex (mC (.int 30))))) (.ex (mC (.int 1)))) env2 = some (.dat (.int (TOP + 1)), env2) := rfl
    have z2 : m1 pNeg (.ex (m2 pIx (.brw 0) (.ex (mC (.int 0))))) env2 = some (.dat (.int (-F.n)), env2) := m1_ex (g0 _) rfl
    have z3 : mFrz (mN pLstN [.ex (mC (.int 1))]) env2 = some (.dat (.lst [.int 1]), env2) := rfl
    have c0 : ∀ y : G.D, mC y env2 = some (.dat y, env2) := fun y => rfl
    have l := lst_N (Γ := Γ) (env := env2) (e1 := env2) (ds := nn) (as := [.ex (mC (.int 0)), .ex (mFrz (m2 pAdd (.ex (m2 pPow (.ex (mC (.int 10))) (.ex (mC (.int 30))))) (.ex (mC (.int 1))))), .ex (m1 pNeg (.ex (m2 pIx (.brw 0) (.ex (mC (.int 0)))))), .ex (mC (.bl true)), .ex (mC (.str "7")), .ex (mC .non), .ex (mFrz (mN pLstN [.ex (mC (.int 1))]))]) (xs := [.val (.dat (.int 0)), .val (.dat (.int (TOP + 1))), .val (.dat (.int (-F.n))), .val (.dat (.bl true)), .val (.dat (.str "7")), .val (.dat .non), .val (.dat (.lst [.int 1]))]) (by simp only [evAs, evA, c0, z1, z2, z3, Option.map_some]) rfl (big (Nat.le_of_ble_eq_true rfl))
    unfold iSeq
    rw [frz_lst l]
  have hnn : ∀ d ∈ nn, isNumD d = false ∧ okN d := fun d hd => by
    have hn := hF.n
    unfold isNo at hn
    simp only [nn, List.mem_cons, List.not_mem_nil, or_false] at hd
    rcases hd with rfl | rfl | rfl | rfl | rfl | rfl | rfl
    · exact ⟨rfl, trivial⟩
    · exact ⟨by show decide ((1 : Int) ≤ TOP + 1 ∧ TOP + 1 ≤ TOP) = false; exact decide_eq_false (by unfold TOP; omega), trivial⟩
    · exact ⟨by show decide ((1 : Int) ≤ -F.n ∧ -F.n ≤ TOP) = false; exact decide_eq_false (by omega), trivial⟩
    · exact ⟨rfl, trivial⟩
    · exact ⟨rfl, by show ("7" : Str).length ≤ 1000; decide +kernel⟩
    · exact ⟨rfl, trivial⟩
    · exact ⟨rfl, trivial⟩
  have cn := comp_num (Γ := Γ) (env := env2) (v := 2) (Nat.le_of_ble_eq_true rfl) rfl nn fun d hd => (hnn d hd).2
  have an2 := any_eq (lc_eq l2 (big (Nat.le_of_ble_eq_true rfl)) (vs := [2]) rfl cn)
  have af2 : nn.any isNumD = false := List.any_eq_false.mpr fun d hd => by rw [(hnn d hd).1]; simp
  rw [af2] at an2
  unfold f_law_are_told b_law_are_told
  refine (fun_rt (e' := [.lst F.D, .dat (.lst odd), .none]) rfl rfl ?_).trans rfl
  refine (seq_nx q1).trans ((seq_nx q2).trans ((seq_nx q3).trans (ret_eq ?_)))
  simp only [mNotE]
  erw [an2]
  rfl
end
end K

/-! M00k: a letter is made and told as it was passed -/
namespace K
open PySem L2 G
theorem flat_ints (ns : List Int) : (ns.map G.D.int).all flat = true := List.all_eq_true.mpr fun d hd => by
  obtain ⟨i, _, rfl⟩ := List.mem_map.mp hd
  rfl
theorem flat_names (ss : List (List Nat)) : (ss.map strD).all flat = true := List.all_eq_true.mpr fun d hd => by
  obtain ⟨i, _, rfl⟩ := List.mem_map.mp hd
  rfl
theorem noL_ints (ns : List Int) : (ns.map G.D.int).all noL = true := List.all_eq_true.mpr fun d hd => by
  obtain ⟨i, _, rfl⟩ := List.mem_map.mp hd
  rfl
theorem noL_names (ss : List (List Nat)) : (ss.map strD).all noL = true := List.all_eq_true.mpr fun d hd => by
  obtain ⟨i, _, rfl⟩ := List.mem_map.mp hd
  rfl
theorem okF_lt (F : Fs) (t : Str) : okF (ltF F t) = true := by
  have h : okF (ltF F t) = (true && (true && (true && (true && ((F.as.map G.D.int).all flat && ((F.ss.map strD).all flat && ((F.ws.map strD).all flat && (true && true)))))))) := rfl
  rw [h, flat_ints, flat_names, flat_names]
  rfl
theorem lay_str {z : Str} (h : PyData.strOk z = true) : lay 0 (.str z) := by
  unfold lay D.toPy PyData.canLay0 PyData.depth
  exact ⟨h, Nat.le_refl _⟩
theorem lit_at : (" at " : Str) = SX.S [32, 97, 116, 32] := by decide +kernel
theorem lay_snd {F : Fs} (hF : F.ok) : lay 0 (.str (sndD F)) := by
  refine lay_str ?_
  unfold sndD
  rw [lit_at, SX.S_cat, SX.S_cat]
  unfold PyData.strOk
  rw [← Array.all_toList]
  refine List.all_eq_true.mpr fun c hc => decide_eq_true ?_
  have hc' : c ∈ F.p ++ [32, 97, 116, 32] ++ F.h := hc
  rcases List.mem_append.mp hc' with z | z
  · rcases List.mem_append.mp z with z | z
    · have := hF.p.let_ c z; omega
    · simp at z; omega
  · have := hF.h.let_ c z; omega
section
variable {Γ : Gam}
theorem ne_ex {a b : AE Γ} {env e1 e2 : Env Γ} {x y : Ag Γ} {s t : Sl Γ} {d e : G.D} (ha : evA a env = some (x, e1)) (hb : evA b e1 = some (y, e2)) (hx : peek x e2 = some s) (hy : peek y e2 = some t) (vs : s.view = some d) (vt : t.view = some e) (od : okD d = true) (oe : okD e = true) : toT (m2 pNe a b) env = some (!eqD d e, e2) := by
  simp only [toT, m2, ha, hb, hx, hy, pNe, pEqG, vs, vt, od, oe, Bool.and_self, if_true, Option.map_some, db]
theorem eq_gen {a b : AE Γ} {env e1 e2 : Env Γ} {x y : Ag Γ} {s t : Sl Γ} {d e : G.D} (ha : evA a env = some (x, e1)) (hb : evA b e1 = some (y, e2)) (hx : peek x e2 = some s) (hy : peek y e2 = some t) (vs : s.view = some d) (vt : t.view = some e) (od : okD d = true) (oe : okD e = true) : m2 pEq a b env = some (.dat (.bl (eqD d e)), e2) := by
  simp only [m2, ha, hb, hx, hy, pEq, pEqG, vs, vt, od, oe, Bool.and_self, if_true, Option.map_some, db, id]
theorem ne_xx {f g : Ev Γ} {env : Env Γ} {d e : G.D} (hf : f env = some (.dat d, env)) (hg : g env = some (.dat e, env)) (od : okD d = true) (oe : okD e = true) : toT (m2 pNe (.ex f) (.ex g)) env = some (!eqD d e, env) :=
  ne_ex (x := .val (.dat d)) (y := .val (.dat e)) (e1 := env) (by simp only [evA, hf, Option.map_some]) (by simp only [evA, hg, Option.map_some]) rfl rfl rfl rfl od oe
theorem ne_bx {i : Nat} {g : Ev Γ} {env : Env Γ} {ds : List G.D} {e : G.D} (hf : env[i]? = some (.lst ds)) (hg : g env = some (.dat e, env)) (od : okD (.lst ds) = true) (oe : okD e = true) : toT (m2 pNe (.brw i) (.ex g)) env = some (!eqD (.lst ds) e, env) :=
  ne_ex (x := .brw i) (y := .val (.dat e)) (e1 := env) (s := .lst ds) (by simp only [evA, hf, got, Option.map_some]) (by simp only [evA, hg, Option.map_some]) (by simp only [peek, hf, got]) rfl rfl rfl od oe
theorem lent {C : Addr} (hC : Γ.cls 0 = some (C, NS)) {F : Fs} (hF : F.ok) : ∃ t, lend 4 (lend 6 f_LT_init) ([.ins 0 [], .dat (.int F.n), .dat (strD F.p), .dat (strD F.h), .lst (F.as.map .int), .dat (.tup (F.ss.map strD)), .lst (F.ws.map strD)] : Env Γ) = some (.dat .non, [.ins 0 (ltF F t), .dat (.int F.n), .dat (strD F.p), .dat (strD F.h), .lst (F.as.map .int), .dat (.tup (F.ss.map strD)), .lst (F.ws.map strD)]) := by
  obtain ⟨t, e⟩ := eval_init hC hF (a4 := .dat (.lst (F.as.map .int))) (b4 := .dat (.lst (F.as.map .int))) (a5 := .dat (.tup (F.ss.map strD))) (b5 := .dat (.tup (F.ss.map strD))) (a6 := .dat (.lst (F.ws.map strD))) (b6 := .dat (.lst (F.ws.map strD))) (.inr (.inl ⟨rfl, rfl⟩)) (.inl (by intro z; cases z)) (.inr (.inr ⟨rfl, rfl⟩)) (.inr (.inl ⟨rfl, rfl⟩))
  refine ⟨t, ?_⟩
  have f1 := okF_lt F t
  have n1 := noL_ints F.as
  have n2 := noL_names F.ws
  have n3 := flat_names F.ss
  have i6 : lend 6 f_LT_init ([.ins 0 [], .dat (.int F.n), .dat (strD F.p), .dat (strD F.h), .dat (.lst (F.as.map .int)), .dat (.tup (F.ss.map strD)), .lst (F.ws.map strD)] : Env Γ) = some (.dat .non, [.ins 0 (ltF F t), .dat (.int F.n), .dat (strD F.p), .dat (strD F.h), .dat (.lst (F.as.map .int)), .dat (.tup (F.ss.map strD)), .lst (F.ws.map strD)]) := by
    have g : ([.ins 0 [], .dat (.int F.n), .dat (strD F.p), .dat (strD F.h), .dat (.lst (F.as.map .int)), .dat (.tup (F.ss.map strD)), .lst (F.ws.map strD)] : Env Γ)[6]? = some (.lst (F.ws.map strD)) := rfl
    have st : ([.ins 0 [], .dat (.int F.n), .dat (strD F.p), .dat (strD F.h), .dat (.lst (F.as.map .int)), .dat (.tup (F.ss.map strD)), .lst (F.ws.map strD)] : Env Γ).set 6 (.dat (.lst (F.ws.map strD))) = [.ins 0 [], .dat (.int F.n), .dat (strD F.p), .dat (strD F.h), .dat (.lst (F.as.map .int)), .dat (.tup (F.ss.map strD)), .dat (.lst (F.ws.map strD))] := rfl
    have ok : okLs ([.ins 0 [], .dat (.int F.n), .dat (strD F.p), .dat (strD F.h), .dat (.lst (F.as.map .int)), .dat (.tup (F.ss.map strD)), .lst (F.ws.map strD)] : Env Γ) [.ins 0 (ltF F t), .dat (.int F.n), .dat (strD F.p), .dat (strD F.h), .dat (.lst (F.as.map .int)), .dat (.tup (F.ss.map strD)), .dat (.lst (F.ws.map strD))] = true := by
      show (okF (ltF F t) && (true && (true && (true && ((F.as.map G.D.int).all noL && ((F.ss.map strD).all flat && ((F.ws.map strD).all noL && true))))))) = true
      rw [f1, n1, n2, n3]
      rfl
    unfold lend
    rw [g]
    simp only [st, e]
    rw [if_pos ⟨rfl, ok⟩]
    rfl
  have g : ([.ins 0 [], .dat (.int F.n), .dat (strD F.p), .dat (strD F.h), .lst (F.as.map .int), .dat (.tup (F.ss.map strD)), .lst (F.ws.map strD)] : Env Γ)[4]? = some (.lst (F.as.map .int)) := rfl
  have st : ([.ins 0 [], .dat (.int F.n), .dat (strD F.p), .dat (strD F.h), .lst (F.as.map .int), .dat (.tup (F.ss.map strD)), .lst (F.ws.map strD)] : Env Γ).set 4 (.dat (.lst (F.as.map .int))) = [.ins 0 [], .dat (.int F.n), .dat (strD F.p), .dat (strD F.h), .dat (.lst (F.as.map .int)), .dat (.tup (F.ss.map strD)), .lst (F.ws.map strD)] := rfl
  have ok : okLs ([.ins 0 [], .dat (.int F.n), .dat (strD F.p), .dat (strD F.h), .lst (F.as.map .int), .dat (.tup (F.ss.map strD)), .lst (F.ws.map strD)] : Env Γ) [.ins 0 (ltF F t), .dat (.int F.n), .dat (strD F.p), .dat (strD F.h), .dat (.lst (F.as.map .int)), .dat (.tup (F.ss.map strD)), .lst (F.ws.map strD)] = true := by
    show (okF (ltF F t) && (true && (true && (true && ((F.as.map G.D.int).all noL && ((F.ss.map strD).all flat && ((F.ws.map strD).all noL && true))))))) = true
    rw [f1, n1, n2, n3]
    rfl
  unfold lend at i6 ⊢
  rw [g]
  simp only [st]
  rw [i6]
  simp only
  rw [if_pos ⟨rfl, ok⟩]
  rfl
theorem app_eq {env : Env Γ} {i : Nat} {ds : List G.D} {d : G.D} (h : env[i]? = some (.lst ds)) (hl : ds.length < 1000) : mDrop (mMut i uAppend [.ex (mC d)]) env = some (.nx, env.set i (.lst (ds ++ [d]))) := by
  have hz : ds.length < sizeLine := Nat.lt_of_lt_of_le hl (by decide)
  have u1 : uAppend (Γ := Γ) ds [.dat d] = some (.non, ds ++ [d]) := by
    show (if ds.length < sizeLine then some (G.D.non, ds ++ [d]) else none) = _
    rw [if_pos hz]
  simp only [mDrop, mMut, h, evAs, evA, mC, Option.map_some, peeks, peek, u1]
theorem own_go {g : Fn Γ} {env e1 : Env Γ} {i : Nat} {fs : List (Str × Fd)} {fe : Ev Γ} {s r s' : Sl Γ} {fit : Sl Γ → Bool} (h : env[i]? = some (.ins 0 fs)) (he : fe env = some (s, env)) (hf : fit s = true) (hg : g [.ins 0 fs, s] = some (r, [.ins 0 fs, s'])) : mOwn fit 0 g (.brw i) (.ex fe) env = some (r, env) := by
  have lt : i < env.length := (List.getElem?_eq_some_iff.mp h).1
  have hs : env.set i (.ins 0 fs) = env := by
    refine List.ext_getElem? fun k => ?_
    by_cases e : k = i
    · subst e; rw [h]; simp [lt]
    · rw [List.getElem?_set_ne (fun z => e z.symm)]
  simp [mOwn, evAs, evA, h, got, he, peeks, peek, hf, mGo, takeA, nonOwn, hg, putA, hs]
theorem tup_ix {env : Env Γ} {b : Nat} {ds es : List G.D} {k : Nat} (hb : env[b]? = some (.lst ds)) (hd : ds[k]? = some (.lst es)) : mN (pN1 pTuple) [.ex (m2 pIx (.brw b) (.ex (mC (.int (k : Nat)))))] env = some (.dat (.tup es), env) := by
  simp only [mN, evAs, evA, ix_lst hb hd, Option.map_some, peeks, peek, pN1, pTuple, Sl.view]
theorem eval_made {C : Addr} (hC : Γ.cls 0 = some (C, NS)) {F : Fs} (hF : F.ok) : f_law_is_made (Γ := Γ) [.lst F.D] = some (.dat (.bl true), [.lst F.D]) := by
  obtain ⟨H1, H2, H3, H4, H5, H6, H7, H8⟩ := has_of hC
  obtain ⟨t, el⟩ := lent (Γ := Γ) hC hF
  have hls := hF.ls
  have hlw := hF.lw
  have hla := hF.la
  have lp := hF.p.l8
  have lh := hF.h.l8
  have o0 : okD (.int F.n) = true := okD_int _
  have o1 : okD (strD F.p) = true := lay_ok (lay_name hF.p) (by decide)
  have o2 : okD (strD F.h) = true := lay_ok (lay_name hF.h) (by decide)
  have o3 : okD (.lst (F.as.map .int)) = true := lay_ok (lay_lst (lay_ints _)) (by decide)
  have o4 : okD (.lst (F.ss.map strD)) = true := lay_ok (lay_lst (lay_names hF.ss)) (by decide)
  have o5 : okD (.lst (F.ws.map strD)) = true := lay_ok (lay_lst (lay_names hF.ws)) (by decide)
  have t3 : okD (.tup (F.as.map .int)) = true := lay_ok (lay_tup (lay_ints _)) (by decide)
  have t4 : okD (.tup (F.ss.map strD)) = true := lay_ok (lay_tup (lay_names hF.ss)) (by decide)
  have t5 : okD (.tup (F.ws.map strD)) = true := lay_ok (lay_tup (lay_names hF.ws)) (by decide)
  have os : okD (.str (sndD F)) = true := lay_ok (lay_snd hF) (by decide)
  let eA : Env Γ := [.lst F.D, .none, .none, .none, .none]
  let eB : Env Γ := [.lst F.D, .lst (F.as.map .int), .lst (F.ss.map strD), .lst (F.ws.map strD), .none]
  let eC : Env Γ := [.lst F.D, .lst (F.as.map .int), .lst (F.ss.map strD), .lst (F.ws.map strD), .ins 0 (ltF F t)]
  let eD : Env Γ := [.lst F.D, .lst (F.as.map .int ++ [.int 1]), .lst (F.ss.map strD), .lst (F.ws.map strD), .ins 0 (ltF F t)]
  let eE : Env Γ := [.lst F.D, .lst (F.as.map .int ++ [.int 1]), .lst (F.ss.map strD), .lst (F.ws.map strD ++ [.str "late"]), .ins 0 (ltF F t)]
  have q1 : mPar3 1 2 3 (mN (pN1 pList) [.ex (m2 pIx (.brw 0) (.ex (mC (.int 3))))]) (mN (pN1 pList) [.ex (m2 pIx (.brw 0) (.ex (mC (.int 4))))]) (mN (pN1 pList) [.ex (m2 pIx (.brw 0) (.ex (mC (.int 5))))]) eA = some (.nx, eB) := by
    have a3 : mN (pN1 pList) [.ex (m2 pIx (.brw 0) (.ex (mC (.int 3))))] eA = some (.lst (F.as.map .int), eA) := ix_list (b := 0) (k := 3) rfl rfl
    have a4 : mN (pN1 pList) [.ex (m2 pIx (.brw 0) (.ex (mC (.int 4))))] eA = some (.lst (F.ss.map strD), eA) := ix_list (b := 0) (k := 4) rfl rfl
    have a5 : mN (pN1 pList) [.ex (m2 pIx (.brw 0) (.ex (mC (.int 5))))] eA = some (.lst (F.ws.map strD), eA) := ix_list (b := 0) (k := 5) rfl rfl
    unfold mPar3
    rw [a3]
    simp only [a4, a5]
    rfl
  have q2 : mSet 4 (mMakeK 0 7 (lend 4 (lend 6 f_LT_init)) 3 [] [.ex (m2 pIx (.brw 0) (.ex (mC (.int 0)))), .ex (m2 pIx (.brw 0) (.ex (mC (.int 1)))), .ex (m2 pIx (.brw 0) (.ex (mC (.int 2)))), .brw 1, .ex (mN (pN1 pTuple) [.brw 2]), .brw 3]) eB = some (.nx, eC) := by
    have a0 : m2 pIx (.brw 0) (.ex (mC (.int 0))) eB = some (.dat (.int F.n), eB) := ix_lst (b := 0) (k := 0) rfl rfl
    have a1 : m2 pIx (.brw 0) (.ex (mC (.int 1))) eB = some (.dat (strD F.p), eB) := ix_lst (b := 0) (k := 1) rfl rfl
    have a2 : m2 pIx (.brw 0) (.ex (mC (.int 2))) eB = some (.dat (strD F.h), eB) := ix_lst (b := 0) (k := 2) rfl rfl
    have a4 : mN (pN1 pTuple) [.brw 2] eB = some (.dat (.tup (F.ss.map strD)), eB) := rfl
    have ev : evAs [.ex (m2 pIx (.brw 0) (.ex (mC (.int 0)))), .ex (m2 pIx (.brw 0) (.ex (mC (.int 1)))), .ex (m2 pIx (.brw 0) (.ex (mC (.int 2)))), .brw 1, .ex (mN (pN1 pTuple) [.brw 2]), .brw 3] eB = some ([.val (.dat (.int F.n)), .val (.dat (strD F.p)), .val (.dat (strD F.h)), .brw 1, .val (.dat (.tup (F.ss.map strD))), .brw 3], eB) := by
      have b1 : got eB[1]? = some (.lst (F.as.map .int)) := rfl
      have b3 : got eB[3]? = some (.lst (F.ws.map strD)) := rfl
      simp only [evAs, evA, a0, a1, a2, a4, b1, b3, Option.map_some]
    have tk : takeA (insA 3 [] [.val (.dat (.int F.n)), .val (.dat (strD F.p)), .val (.dat (strD F.h)), .brw 1, .val (.dat (.tup (F.ss.map strD))), .brw 3]) eB = some ([.dat (.int F.n), .dat (strD F.p), .dat (strD F.h), .lst (F.as.map .int), .dat (.tup (F.ss.map strD)), .lst (F.ws.map strD)], [.lst F.D, .none, .lst (F.ss.map strD), .none, .none], [none, none, none, some 1, none, some 3]) := rfl
    have mk : mMakeK 0 7 (lend 4 (lend 6 f_LT_init)) 3 [] [.ex (m2 pIx (.brw 0) (.ex (mC (.int 0)))), .ex (m2 pIx (.brw 0) (.ex (mC (.int 1)))), .ex (m2 pIx (.brw 0) (.ex (mC (.int 2)))), .brw 1, .ex (mN (pN1 pTuple) [.brw 2]), .brw 3] eB = some (.ins 0 (ltF F t), eB) := by
      unfold mMakeK
      rw [ev]
      simp only [tk, el]
      rfl
    exact (set_eq mk (Nat.le_of_ble_eq_true rfl)).trans rfl
  have ix : ∀ {e : Env Γ} {k : Nat} {d : G.D}, e[0]? = some (.lst F.D) → F.D[k]? = some d → m2 pIx (.brw 0) (.ex (mC (.int (k : Nat)))) e = some (.dat d, e) := fun h1 h2 => ix_lst h1 h2
  have self : ∀ d : G.D, okD d = true → eqD d d = true → (!eqD d d) = false := fun d _ h => by rw [h]; rfl
  have q3 : mIfS (mOrT (toT (m2 pNe (.brw 1) (.ex (m2 pIx (.brw 0) (.ex (mC (.int 3))))))) (mOrT (toT (m2 pNe (.brw 2) (.ex (m2 pIx (.brw 0) (.ex (mC (.int 4))))))) (toT (m2 pNe (.brw 3) (.ex (m2 pIx (.brw 0) (.ex (mC (.int 5))))))))) (mRet (mC (.bl false))) (mNx) eC = some (.nx, eC) := by
    have c3 := ne_bx (Γ := Γ) (env := eC) (i := 1) (ds := F.as.map .int) (g := m2 pIx (.brw 0) (.ex (mC (.int 3)))) (e := .lst (F.as.map .int)) rfl (ix (k := 3) rfl rfl) o3 o3
    have c4 := ne_bx (Γ := Γ) (env := eC) (i := 2) (ds := F.ss.map strD) (g := m2 pIx (.brw 0) (.ex (mC (.int 4)))) (e := .lst (F.ss.map strD)) rfl (ix (k := 4) rfl rfl) o4 o4
    have c5 := ne_bx (Γ := Γ) (env := eC) (i := 3) (ds := F.ws.map strD) (g := m2 pIx (.brw 0) (.ex (mC (.int 5)))) (e := .lst (F.ws.map strD)) rfl (ix (k := 5) rfl rfl) o5 o5
    rw [eq_lints, decide_eq_true rfl] at c3
    rw [eq_lnames, decide_eq_true rfl] at c4 c5
    exact ifs_no ((or_f c3).trans ((or_f c4).trans c5))
  have q4 : mDrop (mMut 1 uAppend [.ex (mC (.int 1))]) eC = some (.nx, eD) := (app_eq (ds := F.as.map .int) rfl (by rw [List.length_map]; omega)).trans rfl
  have q5 : mDrop (mMut 3 uAppend [.ex (mC (.str "late"))]) eD = some (.nx, eE) := (app_eq (ds := F.ws.map strD) rfl (by rw [List.length_map]; omega)).trans rfl
  have fn : mQ (.pl (.fl 4 "number")) eE = some (.dat (.int F.n), eE) := fl_get (fs := ltF F t) rfl H1 rfl
  have fp : mQ (.pl (.fl 4 "person")) eE = some (.dat (strD F.p), eE) := fl_get (fs := ltF F t) rfl H2 rfl
  have fh : mQ (.pl (.fl 4 "house")) eE = some (.dat (strD F.h), eE) := fl_get (fs := ltF F t) rfl H3 rfl
  have fs : mQ (.pl (.fl 4 "sender")) eE = some (.dat (.str (sndD F)), eE) := fl_get (fs := ltF F t) rfl H4 rfl
  have fa : mQ (.pl (.fl 4 "answers")) eE = some (.dat (.tup (F.as.map .int)), eE) := fl_get (fs := ltF F t) rfl H5 rfl
  have fu : mQ (.pl (.fl 4 "subject")) eE = some (.dat (.tup (F.ss.map strD)), eE) := fl_get (fs := ltF F t) rfl H6 rfl
  have fw : mQ (.pl (.fl 4 "words")) eE = some (.dat (.tup (F.ws.map strD)), eE) := fl_get (fs := ltF F t) rfl H7 rfl
  have q6 : mIfS (mOrT (toT (m2 pNe (.ex (mQ (.pl (.fl 4 "number")))) (.ex (m2 pIx (.brw 0) (.ex (mC (.int 0))))))) (mT (.ex (m1 (pIsi "bool") (.ex (mQ (.pl (.fl 4 "number")))))))) (mRet (mC (.bl false))) (mNx) eE = some (.nx, eE) := by
    have c := ne_xx (Γ := Γ) fn (ix (e := eE) (k := 0) rfl rfl) o0 o0
    rw [eqD_int, decide_eq_true rfl] at c
    have b : m1 (pIsi "bool") (.ex (mQ (.pl (.fl 4 "number")))) eE = some (.dat (.bl false), eE) := m1_ex fn (by simp [pIsi, isT, Sl.view, db])
    exact ifs_no ((or_f c).trans (tr_t b))
  have q7 : mIfS (mOrT (toT (m2 pNe (.ex (mQ (.pl (.fl 4 "person")))) (.ex (m2 pIx (.brw 0) (.ex (mC (.int 1))))))) (toT (m2 pNe (.ex (mQ (.pl (.fl 4 "house")))) (.ex (m2 pIx (.brw 0) (.ex (mC (.int 2)))))))) (mRet (mC (.bl false))) (mNx) eE = some (.nx, eE) := by
    have c := ne_xx (Γ := Γ) fp (ix (e := eE) (k := 1) rfl rfl) o1 o1
    have c' := ne_xx (Γ := Γ) fh (ix (e := eE) (k := 2) rfl rfl) o2 o2
    rw [eqD_name, decide_eq_true rfl] at c c'
    exact ifs_no ((or_f c).trans c')
  have q8 : mIfS (toT (m2 pNe (.ex (mQ (.pl (.fl 4 "sender")))) (.ex (m2 pAdd (.ex (m2 pAdd (.ex (m2 pIx (.brw 0) (.ex (mC (.int 1))))) (.ex (mC (.str " at "))))) (.ex (m2 pIx (.brw 0) (.ex (mC (.int 2))))))))) (mRet (mC (.bl false))) (mNx) eE = some (.nx, eE) := by
    have atl : (" at " : Str).length = 4 := by decide +kernel
    have c1 : (SX.S F.p).length + (" at " : Str).length ≤ sizeLine := by rw [SX.S_len F.p, atl]; exact big (by omega)
    have c2 : (SX.S F.p ++ (" at " : Str)).length + (SX.S F.h).length ≤ sizeLine := by rw [Str.length_append, SX.S_len F.p, SX.S_len F.h, atl]; exact big (by omega)
    have p1 : pAdd (Γ := Γ) (.dat (strD F.p)) (.dat (.str " at ")) = some (.dat (.str (SX.S F.p ++ " at "))) := if_pos c1
    have p2 : pAdd (Γ := Γ) (.dat (.str (SX.S F.p ++ " at "))) (.dat (strD F.h)) = some (.dat (.str (sndD F))) := if_pos c2
    have sn := m2_ex (m2_ex (ix (e := eE) (k := 1) rfl rfl) (show mC (.str " at ") eE = _ from rfl) p1) (ix (e := eE) (k := 2) rfl rfl) p2
    have c := ne_xx (Γ := Γ) fs sn os os
    rw [eqD_str, decide_eq_true rfl] at c
    exact ifs_no c
  have q9 : mIfS (mOrT (toT (m2 pNe (.ex (mQ (.pl (.fl 4 "answers")))) (.ex (mN (pN1 pTuple) [.ex (m2 pIx (.brw 0) (.ex (mC (.int 3))))])))) (toT (m2 pNe (.ex (mQ (.pl (.fl 4 "subject")))) (.ex (mN (pN1 pTuple) [.ex (m2 pIx (.brw 0) (.ex (mC (.int 4))))]))))) (mRet (mC (.bl false))) (mNx) eE = some (.nx, eE) := by
    have c := ne_xx (Γ := Γ) fa (tup_ix (env := eE) (b := 0) (k := 3) rfl rfl) t3 t3
    have c' := ne_xx (Γ := Γ) fu (tup_ix (env := eE) (b := 0) (k := 4) rfl rfl) t4 t4
    rw [eq_tints, decide_eq_true rfl] at c
    rw [eq_tnames, decide_eq_true rfl] at c'
    exact ifs_no ((or_f c).trans c')
  obtain ⟨t', cl⟩ := call_letter (Γ := Γ) hC hF (env := eE) (b := 0) rfl
  have ee := eval_eq (Γ := Γ) hC hF hF t t'
  rw [eqF_self] at ee
  have w1 := own_go (Γ := Γ) (fit := fitO 0) (env := eE) (e1 := eE) (i := 4) (fs := ltF F t) rfl cl rfl ee
  have en : f_LT_eq (Γ := Γ) [.ins 0 (ltF F t), .dat (.int F.n)] = some (.dat (.bl false), [.ins 0 (ltF F t), .dat (.int F.n)]) := by
    unfold f_LT_eq b_LT_eq
    refine (fun_rt (np := 2) (loc := 0) (A := []) (args := [.ins 0 (ltF F t), .dat (.int F.n)]) (s := .dat (.bl false)) (e' := [.ins 0 (ltF F t), .dat (.int F.n)]) rfl rfl (ret_eq (s := .dat (.bl false)) ?_)).trans rfl
    have i0 : m1 (pIsN 0) (.brw 1) ([.ins 0 (ltF F t), .dat (.int F.n)] : Env Γ) = some (.dat (.bl false), [.ins 0 (ltF F t), .dat (.int F.n)]) := by simp [m1, evA, got, peek, pIsN, db]
    show mAndV _ _ ([.ins 0 (ltF F t), .dat (.int F.n)] : Env Γ) = _
    simp only [mAndV, i0, truth, Sl.view]
  have w2 : mOwnN 0 f_LT_eq (.brw 4) (.ex (mQ (.pl (.fl 4 "number")))) eE = some (.dat (.bl true), eE) := by
    unfold mOwnN
    rw [own_go (Γ := Γ) (fit := fitN 0) (env := eE) (e1 := eE) (i := 4) (fs := ltF F t) rfl fn rfl en]
    rfl
  have w0 := eq_ex (Γ := Γ) fw (tup_ix (env := eE) (b := 0) (k := 5) rfl rfl) t5 t5
  rw [eq_tnames, decide_eq_true rfl] at w0
  unfold f_law_is_made b_law_is_made
  refine (fun_rt (np := 1) (args := [.lst F.D]) (s := .dat (.bl true)) (e' := [.lst F.D, .lst (F.as.map .int ++ [.int 1]), .lst (F.ss.map strD), .lst (F.ws.map strD ++ [.str "late"]), .ins 0 (ltF F t)]) rfl rfl ?_).trans rfl
  refine (seq_nx q1).trans ((seq_nx q2).trans ((seq_nx q3).trans ((seq_nx q4).trans ((seq_nx q5).trans ((seq_nx q6).trans ((seq_nx q7).trans ((seq_nx q8).trans ((seq_nx q9).trans (ret_eq (s := .dat (.bl true)) ?_)))))))))
  exact and_t (b := true) (c := true) w0 (fun _ => and_t (b := true) (c := true) w1 (fun _ => w2) fun z => (nomatch z)) fun z => (nomatch z)
end
end K

/-! M00l: pieces of one turn of the law -/
namespace K
open PySem L2 G
theorem six {ds : List G.D} (h : ds.length = 6) : ∃ x0 x1 x2 x3 x4 x5, ds = [x0, x1, x2, x3, x4, x5] := by
  match ds, h with
  | [x0, x1, x2, x3, x4, x5], _ => exact ⟨x0, x1, x2, x3, x4, x5, rfl⟩
theorem sort2 (a b : Int) : sortI [a, b] = if a ≤ b then [a, b] else [b, a] := by
  show (if decide (b < a) = true then b :: insS ltI a [] else [a, b]) = _
  by_cases h : a ≤ b
  · rw [if_pos h, if_neg (by simpa using h)]
  · rw [if_neg h, if_pos (by simpa using h)]
    rfl
section
variable {Γ : Gam}
theorem ck_of {F : Fs} (hF : F.ok) {x0 x1 x2 x3 x4 x5 d : G.D} {w : Nat} (hw : w ≤ 5) (h : ∀ i, i < w → ([x0, x1, x2, x3, x4, x5] : List G.D)[i]? = F.D[i]?) (hd : ([x0, x1, x2, x3, x4, x5] : List G.D)[w]? = some d) (hb : BadAt Γ w (.int F.n) d) : Ck Γ x0 x1 x2 x3 x4 x5 w := by
  have r0 : f_is_number (Γ := Γ) [.dat (.int F.n)] = some (.dat (.bl true), [.dat (.int F.n)]) := (eval_is_number (d := .int F.n) trivial).trans (by rw [show isNumD (.int F.n) = true from decide_eq_true hF.n])
  have r1 : f_is_name (Γ := Γ) [.dat (strD F.p)] = some (.dat (.bl true), [.dat (strD F.p)]) := (eval_is_name (d := strD F.p) (by show (SX.S F.p).length ≤ 1000; rw [SX.S_len]; have := hF.p.l8; omega)).trans (by rw [isN_nm hF.p])
  have r2 : f_is_name (Γ := Γ) [.dat (strD F.h)] = some (.dat (.bl true), [.dat (strD F.h)]) := (eval_is_name (d := strD F.h) (by show (SX.S F.h).length ≤ 1000; rw [SX.S_len]; have := hF.h.l8; omega)).trans (by rw [isN_nm hF.h])
  have hls := hF.ls
  have r3 : f_fits_answers (Γ := Γ) [.dat (.int F.n), .dat (.lst (F.as.map .int))] = some (.dat (.bl true), [.dat (.int F.n), .dat (.lst (F.as.map .int))]) := (eval_fits (a := .dat (.lst (F.as.map .int))) (.inr (.inl ⟨rfl, rfl⟩)) (.inl (by intro z; cases z)) F.n hF.la hF.as).trans (by rw [decide_eq_true ⟨hF.nn, many_nodup hF.nd⟩])
  have r4 : f_are_names (Γ := Γ) [.dat (.lst (F.ss.map strD)), .dat (.int 8)] = some (.dat (.bl true), [.dat (.lst (F.ss.map strD)), .dat (.int 8)]) := (eval_are (a := .dat (.lst (F.ss.map strD))) (.inr (.inl ⟨rfl, rfl⟩)) (by rw [List.length_map]; omega) (by rw [List.length_map]; omega) (okN_names hF.ss)).trans (by rw [all_names hF.ss])
  match w, hw with
  | 0, _ => cases hd; exact ⟨hb.1, fun z => absurd z (by decide), fun z => absurd z (by decide), fun z => absurd z (by decide), fun z => absurd z (by decide), fun z => absurd z (by decide), by decide⟩
  | 1, _ =>
    cases hd
    cases h 0 (by decide)
    exact ⟨r0, fun _ => hb, fun z => absurd z (by decide), fun z => absurd z (by decide), fun z => absurd z (by decide), fun z => absurd z (by decide), by decide⟩
  | 2, _ =>
    cases hd
    cases h 0 (by decide)
    cases h 1 (by decide)
    exact ⟨r0, fun _ => r1, fun _ => hb, fun z => absurd z (by decide), fun z => absurd z (by decide), fun z => absurd z (by decide), by decide⟩
  | 3, _ =>
    cases hd
    cases h 0 (by decide)
    cases h 1 (by decide)
    cases h 2 (by decide)
    exact ⟨r0, fun _ => r1, fun _ => r2, fun _ => hb F.n hF.n rfl, fun z => absurd z (by decide), fun z => absurd z (by decide), by decide⟩
  | 4, _ =>
    cases hd
    cases h 0 (by decide)
    cases h 1 (by decide)
    cases h 2 (by decide)
    cases h 3 (by decide)
    exact ⟨r0, fun _ => r1, fun _ => r2, fun _ => r3, fun _ => hb, fun z => absurd z (by decide), by decide⟩
  | 5, _ =>
    cases hd
    cases h 0 (by decide)
    cases h 1 (by decide)
    cases h 2 (by decide)
    cases h 3 (by decide)
    cases h 4 (by decide)
    exact ⟨r0, fun _ => r1, fun _ => r2, fun _ => r3, fun _ => r4, fun _ => hb, by decide⟩
abbrev lbad : Es Γ := mSetIx 9 (mFrz (mCall 3 f_law_bad [.brw 4, .brw 7, .brw 9])) (mVar 7)
theorem bad_turn {s0 s1 s2 s3 s s5 s6 s7 s8 s10 : Sl Γ} (hs : isBag s) (w : Nat) (hw : w ≤ 5) {ds : List G.D} (hl : ds.length = 6) {x0 : G.D} (h0 : ds[0]? = some x0) (hx : okN x0) : ∃ d s', isBag s' ∧ BadAt Γ w x0 d ∧ lbad [s0, s1, s2, s3, s, s5, s6, .dat (.int w), s8, .lst ds, s10] = some (.nx, [s0, s1, s2, s3, s', s5, s6, .dat (.int w), s8, .lst (ds.set w d), s10]) := by
  obtain ⟨y0, y1, y2, y3, y4, y5, rfl⟩ := six hl
  cases h0
  obtain ⟨d, s', b', hb, e⟩ := eval_bad (Γ := Γ) hs w hw (x0 := x0) (x1 := y1) (x2 := y2) (x3 := y3) (x4 := y4) (x5 := y5) hx
  refine ⟨d, s', b', hb, ?_⟩
  obtain ⟨i, j, rfl⟩ := hs
  have c : mCall 3 f_law_bad [.brw 4, .brw 7, .brw 9] ([s0, s1, s2, s3, bag i j, s5, s6, .dat (.int w), s8, .lst [x0, y1, y2, y3, y4, y5], s10] : Env Γ) = some (.dat d, [s0, s1, s2, s3, s', s5, s6, .dat (.int w), s8, .lst [x0, y1, y2, y3, y4, y5], s10]) := by
    unfold bag at e ⊢
    simp [mCall, evAs, evA, got, takeA, nonOwn, e, putA]
  have ix : ixN ([x0, y1, y2, y3, y4, y5] : List G.D).length (w : Int) = some w := by
    unfold ixN
    rw [if_pos (by omega), if_pos (by simp; omega)]
    simp
  simp only [lbad, mSetIx, frz_dat c, List.getElem?_cons_succ, List.getElem?_cons_zero, mVar, ix, Option.map_some]
  rfl
/-- two wrong fields -/
theorem spoil {F : Fs} (hF : F.ok) {s0 s1 s2 s3 s s5 s6 s7 s8 s10 : Sl Γ} (hs : isBag s) {w v : Nat} (hwv : w ≤ v) (hv : v ≤ 5) : ∃ (x0 x1 x2 x3 x4 x5 : G.D) (s' : Sl Γ), isBag s' ∧ Ck Γ x0 x1 x2 x3 x4 x5 w ∧ forL (gNm 7) lbad [.int w, .int v] [s0, s1, s2, s3, s, s5, s6, s7, s8, .lst F.D, s10] = some (.nx, [s0, s1, s2, s3, s', s5, s6, .dat (.int v), s8, .lst [x0, x1, x2, x3, x4, x5], s10]) := by
  obtain ⟨d, t1, b1, h1, e1⟩ := bad_turn (Γ := Γ) (s0 := s0) (s1 := s1) (s2 := s2) (s3 := s3) (s5 := s5) (s6 := s6) (s7 := s7) (s8 := s8) (s10 := s10) hs w (by omega) (ds := F.D) rfl (x0 := .int F.n) rfl trivial
  have l1 : (F.D.set w d).length = 6 := by rw [List.length_set]; rfl
  have z0 : ∃ x, (F.D.set w d)[0]? = some x ∧ okN x ∧ (w ≠ 0 → x = .int F.n) := by
    by_cases hw : w = 0
    · subst hw
      exact ⟨d, rfl, h1.2, fun z => absurd rfl z⟩
    · refine ⟨.int F.n, ?_, trivial, fun _ => rfl⟩
      rw [List.getElem?_set_ne hw]
      rfl
  obtain ⟨x, hx, ox, xn⟩ := z0
  obtain ⟨d', t2, b2, h2, e2⟩ := bad_turn (Γ := Γ) (s0 := s0) (s1 := s1) (s2 := s2) (s3 := s3) (s5 := s5) (s6 := s6) (s7 := s7) (s8 := s8) (s10 := s10) b1 v hv l1 hx ox
  have l2 : ((F.D.set w d).set v d').length = 6 := by rw [List.length_set]; exact l1
  obtain ⟨x0, x1, x2, x3, x4, x5, e6⟩ := six l2
  have fi : ∀ i, i < w → ([x0, x1, x2, x3, x4, x5] : List G.D)[i]? = F.D[i]? := fun i hi => by
    rw [← e6, List.getElem?_set_ne (by omega), List.getElem?_set_ne (by omega)]
  have wl : w < (F.D.set w d).length := by rw [l1]; omega
  have wl0 : w < F.D.length := by show w < 6; omega
  have ck : Ck Γ x0 x1 x2 x3 x4 x5 w := by
    by_cases hq : w = v
    · subst hq
      refine ck_of hF (by omega) fi (d := d') ?_ ?_
      · rw [← e6, List.getElem?_set_self wl]
      · by_cases hw : w = 0
        · subst hw; exact h2
        · rw [xn hw] at h2; exact h2
    · refine ck_of hF (by omega) fi (d := d) ?_ h1
      rw [← e6, List.getElem?_set_ne (fun z => hq z.symm), List.getElem?_set_self wl0]
  refine ⟨x0, x1, x2, x3, x4, x5, t2, b2, ck, ?_⟩
  unfold forL
  have tg : ∀ (a : Sl Γ) (y : Sl Γ) (q : List G.D) (i : Int), gNm 7 (.int i) [s0, s1, s2, s3, a, s5, s6, y, s8, .lst q, s10] = some [s0, s1, s2, s3, a, s5, s6, .dat (.int i), s8, .lst q, s10] := fun _ _ _ _ => rfl
  rw [tg]
  simp only [e1]
  unfold forL
  rw [tg]
  simp only [e2, e6]
  rfl
/-- the copy with another field -/
theorem other {F R : Fs} (hF : F.ok) (hR : R.ok) {s0 s1 s2 s3 s4 s9 s10 : Sl Γ} {pl : Nat} (hp : pl < 6) : ∃ (O : Fs) (e6 e7 : Env Γ), O.ok ∧
    mIfS (mAndT (toT (m2 pNe (.brw 7) (.ex (mC (.int 3))))) (toT (m2 pNe (.brw 7) (.ex (mC (.int 0)))))) (mSetIx 6 (m2 pIx (.brw 8) (.brw 7)) (mVar 7)) (mNx) [s0, s1, s2, s3, s4, .lst F.D, .lst F.D, .dat (.int pl), .lst R.D, s9, s10] = some (.nx, e6) ∧
    mIfS (toT (m2 pEq (.brw 7) (.ex (mC (.int 0))))) (mSet 6 (mN pLstN [.ex (mFrz (m2 pAdd (.ex (m2 pMod (.ex (mN (pN1 pInt) [.ex (m2 pIx (.brw 5) (.ex (mC (.int 0))))])) (.ex (m2 pPow (.ex (mC (.int 10))) (.ex (mC (.int 30))))))) (.ex (mC (.int 1))))), .ex (m2 pIx (.brw 5) (.ex (mC (.int 1)))), .ex (m2 pIx (.brw 5) (.ex (mC (.int 2)))), .ex (mFrz (mN pLstN [])), .ex (m2 pIx (.brw 5) (.ex (mC (.int 4)))), .ex (m2 pIx (.brw 5) (.ex (mC (.int 5))))])) (mNx) e6 = some (.nx, e7) ∧
    mIfS (toT (m2 pEq (.brw 7) (.ex (mC (.int 3))))) (mSetIx 6 (mFrz (m1 pRev (.ex (m2 pIx (.brw 6) (.ex (mC (.int 3))))))) (mC (.int 3))) (mNx) e7 = some (.nx, [s0, s1, s2, s3, s4, .lst F.D, .lst O.D, .dat (.int pl), .lst R.D, s9, s10]) := by
  have c6 : ∀ (y : Sl Γ), mAndT (toT (m2 pNe (.brw 7) (.ex (mC (.int 3))))) (toT (m2 pNe (.brw 7) (.ex (mC (.int 0))))) [s0, s1, s2, s3, s4, .lst F.D, y, .dat (.int pl), .lst R.D, s9, s10] = some (decide (pl ≠ 3 ∧ pl ≠ 0), [s0, s1, s2, s3, s4, .lst F.D, y, .dat (.int pl), .lst R.D, s9, s10]) := fun y => by
    by_cases h3 : pl = 3
    · subst h3; simp [mFun, mSeq, mIfS, toT, m1, m2, mN, evA, evAs, got, peek, peeks, pEq, pNe, pEqG, pLt, pLe, pGt, pGe, pOrd, pIx, Sl.view, mC, mVar, mRet, mNx, mSet, mDrop, mNotT, mNotE, mNotV, mAndT, mOrT, mAndV, mOrV, mIf, mT, truth, db, di, atI, ixN, okD_int, okD_bl, okD_non, eqD_int, eqD_str, eqD_bl, nonOwn, backE, List.replicate, mRetMv, mQ, evQ, getP, Fd.sl, pTupN, allDat, pN1, pN2, pI, cMod, cMul, cDiv, cPow, pMod, pMul, pDiv, pPow, pAdd, pSub, p0, pInt, pLen, mFrz, ]
    · have h3' : ¬ (pl : Int) = 3 := by omega
      by_cases h0 : pl = 0
      · subst h0; simp [mFun, mSeq, mIfS, toT, m1, m2, mN, evA, evAs, got, peek, peeks, pEq, pNe, pEqG, pLt, pLe, pGt, pGe, pOrd, pIx, Sl.view, mC, mVar, mRet, mNx, mSet, mDrop, mNotT, mNotE, mNotV, mAndT, mOrT, mAndV, mOrV, mIf, mT, truth, db, di, atI, ixN, okD_int, okD_bl, okD_non, eqD_int, eqD_str, eqD_bl, nonOwn, backE, List.replicate, mRetMv, mQ, evQ, getP, Fd.sl, pTupN, allDat, pN1, pN2, pI, cMod, cMul, cDiv, cPow, pMod, pMul, pDiv, pPow, pAdd, pSub, p0, pInt, pLen, mFrz, ]
      · have h0' : ¬ (pl : Int) = 0 := by omega
        simp [mFun, mSeq, mIfS, toT, m1, m2, mN, evA, evAs, got, peek, peeks, pEq, pNe, pEqG, pLt, pLe, pGt, pGe, pOrd, pIx, Sl.view, mC, mVar, mRet, mNx, mSet, mDrop, mNotT, mNotE, mNotV, mAndT, mOrT, mAndV, mOrV, mIf, mT, truth, db, di, atI, ixN, okD_int, okD_bl, okD_non, eqD_int, eqD_str, eqD_bl, nonOwn, backE, List.replicate, mRetMv, mQ, evQ, getP, Fd.sl, pTupN, allDat, pN1, pN2, pI, cMod, cMul, cDiv, cPow, pMod, pMul, pDiv, pPow, pAdd, pSub, p0, pInt, pLen, mFrz, h3, h3', h0, h0']
  have c7 : ∀ (y : Sl Γ) (c : Nat), toT (m2 pEq (.brw 7) (.ex (mC (.int (c : Int))))) [s0, s1, s2, s3, s4, .lst F.D, y, .dat (.int pl), .lst R.D, s9, s10] = some (decide (pl = c), [s0, s1, s2, s3, s4, .lst F.D, y, .dat (.int pl), .lst R.D, s9, s10]) := fun y c => by
    have e : decide ((pl : Int) = (c : Int)) = decide (pl = c) := by
      by_cases h : pl = c
      · subst h; simp
      · rw [decide_eq_false h, decide_eq_false (by omega)]
    simp [mFun, mSeq, mIfS, toT, m1, m2, mN, evA, evAs, got, peek, peeks, pEq, pNe, pEqG, pLt, pLe, pGt, pGe, pOrd, pIx, Sl.view, mC, mVar, mRet, mNx, mSet, mDrop, mNotT, mNotE, mNotV, mAndT, mOrT, mAndV, mOrV, mIf, mT, truth, db, di, atI, ixN, okD_int, okD_bl, okD_non, eqD_int, eqD_str, eqD_bl, nonOwn, backE, List.replicate, mRetMv, mQ, evQ, getP, Fd.sl, pTupN, allDat, pN1, pN2, pI, cMod, cMul, cDiv, cPow, pMod, pMul, pDiv, pPow, pAdd, pSub, p0, pInt, pLen, mFrz, e]
  have rep : ∀ (O : Fs) (d : G.D), pl ≠ 3 → pl ≠ 0 → R.D[pl]? = some d → F.D.set pl d = O.D → mIfS (mAndT (toT (m2 pNe (.brw 7) (.ex (mC (.int 3))))) (toT (m2 pNe (.brw 7) (.ex (mC (.int 0)))))) (mSetIx 6 (m2 pIx (.brw 8) (.brw 7)) (mVar 7)) (mNx) [s0, s1, s2, s3, s4, .lst F.D, .lst F.D, .dat (.int pl), .lst R.D, s9, s10] = some (.nx, [s0, s1, s2, s3, s4, .lst F.D, .lst O.D, .dat (.int pl), .lst R.D, s9, s10]) := fun O d h3 h0 hd hO => by
    have c := c6 (.lst F.D)
    rw [decide_eq_true ⟨h3, h0⟩] at c
    refine (ifs_t c).trans ?_
    have lg : R.D.length = 6 := rfl
    have lf : F.D.length = 6 := rfl
    have ix : ∀ n, n = 6 → ixN n (pl : Int) = some pl := fun n hn => by
      unfold ixN
      rw [if_pos (by omega), if_pos (by omega)]
      simp
    have ip : pIx (Γ := Γ) (.lst R.D) (.dat (.int pl)) = some (.dat d) := by
      unfold pIx atI
      simp only [Sl.view, ix _ lg, Option.bind_some, hd, Option.map_some]
    have a : m2 pIx (.brw 8) (.brw 7) ([s0, s1, s2, s3, s4, .lst F.D, .lst F.D, .dat (.int pl), .lst R.D, s9, s10] : Env Γ) = some (.dat d, [s0, s1, s2, s3, s4, .lst F.D, .lst F.D, .dat (.int pl), .lst R.D, s9, s10]) := by
      simp only [m2, evA, got, List.getElem?_cons_succ, List.getElem?_cons_zero, Option.map_some, peek, ip]
    simp only [mSetIx, a, List.getElem?_cons_succ, List.getElem?_cons_zero, mVar, ix _ lf, Option.map_some, hO]
    rfl
  have skip7 : ∀ y : Sl Γ, ∀ X : Es Γ, pl ≠ 0 → mIfS (toT (m2 pEq (.brw 7) (.ex (mC (.int 0))))) X mNx [s0, s1, s2, s3, s4, .lst F.D, y, .dat (.int pl), .lst R.D, s9, s10] = some (.nx, [s0, s1, s2, s3, s4, .lst F.D, y, .dat (.int pl), .lst R.D, s9, s10]) := fun y X h => ifs_no (by rw [show ((0 : Int)) = ((0 : Nat) : Int) from rfl, c7 y 0, decide_eq_false h])
  have skip8 : ∀ y : Sl Γ, ∀ X : Es Γ, pl ≠ 3 → mIfS (toT (m2 pEq (.brw 7) (.ex (mC (.int 3))))) X mNx [s0, s1, s2, s3, s4, .lst F.D, y, .dat (.int pl), .lst R.D, s9, s10] = some (.nx, [s0, s1, s2, s3, s4, .lst F.D, y, .dat (.int pl), .lst R.D, s9, s10]) := fun y X h => ifs_no (by rw [show ((3 : Int)) = ((3 : Nat) : Int) from rfl, c7 y 3, decide_eq_false h])
  match pl, hp with
  | 0, _ =>
    let O : Fs := { F with n := F.n % TOP + 1, as := [] }
    have lo : 0 ≤ F.n % TOP := Int.emod_nonneg _ (by decide)
    have hi : F.n % TOP < TOP := Int.emod_lt_of_pos _ (by decide)
    have c := c6 (.lst F.D)
    refine ⟨O, _, [s0, s1, s2, s3, s4, .lst F.D, .lst O.D, .dat (.int ((0 : Nat) : Int)), .lst R.D, s9, s10], ⟨⟨by show 1 ≤ F.n % TOP + 1; omega, by show F.n % TOP + 1 ≤ TOP; omega⟩, hF.p, hF.h, fun _ z => (nomatch z), .nil, fun z => (nomatch z), by show 0 ≤ 8; omega, hF.ss, hF.ls, hF.ws, hF.lw⟩, ifs_no c, ?_, skip8 _ _ (by decide)⟩
    refine (ifs_t (c7 (.lst F.D) 0)).trans ?_
    let e : Env Γ := [s0, s1, s2, s3, s4, .lst F.D, .lst F.D, .dat (.int ((0 : Nat) : Int)), .lst R.D, s9, s10]
    have g0 : m2 pIx (.brw 5) (.ex (mC (.int 0))) e = some (.dat (.int F.n), e) := ix_lst (b := 5) (k := 0) rfl rfl
    have g1 : m2 pIx (.brw 5) (.ex (mC (.int 1))) e = some (.dat (strD F.p), e) := ix_lst (b := 5) (k := 1) rfl rfl
    have g2 : m2 pIx (.brw 5) (.ex (mC (.int 2))) e = some (.dat (strD F.h), e) := ix_lst (b := 5) (k := 2) rfl rfl
    have g4 : m2 pIx (.brw 5) (.ex (mC (.int 4))) e = some (.dat (.lst (F.ss.map strD)), e) := ix_lst (b := 5) (k := 4) rfl rfl
    have g5 : m2 pIx (.brw 5) (.ex (mC (.int 5))) e = some (.dat (.lst (F.ws.map strD)), e) := ix_lst (b := 5) (k := 5) rfl rfl
    have gi : mN (pN1 pInt) [.ex (m2 pIx (.brw 5) (.ex (mC (.int 0))))] e = some (.dat (.int F.n), e) := by simp only [mN, evAs, evA, g0, Option.map_some, peeks, peek, pN1, pInt, Sl.view, di]
    have pw : m2 pPow (.ex (mC (.int 10))) (.ex (mC (.int 30))) e = some (.dat (.int TOP), e) := rfl
    have pm : pMod (Γ := Γ) (.dat (.int F.n)) (.dat (.int TOP)) = some (.dat (.int (F.n % TOP))) := by
      unfold pMod pI
      simp only [Sl.view]
      rw [if_pos (show cMod F.n TOP by unfold cMod; decide)]
    have gn : mFrz (m2 pAdd (.ex (m2 pMod (.ex (mN (pN1 pInt) [.ex (m2 pIx (.brw 5) (.ex (mC (.int 0))))])) (.ex (m2 pPow (.ex (mC (.int 10))) (.ex (mC (.int 30))))))) (.ex (mC (.int 1)))) e = some (.dat (.int (F.n % TOP + 1)), e) := frz_dat (m2_ex (m2_ex gi pw pm) rfl rfl)
    have g3 : mFrz (mN pLstN []) e = some (.dat (.lst []), e) := rfl
    refine (set_eq (e1 := e) (s := .lst O.D) (lst_N (ds := O.D) (xs := [.val (.dat (.int (F.n % TOP + 1))), .val (.dat (strD F.p)), .val (.dat (strD F.h)), .val (.dat (.lst [])), .val (.dat (.lst (F.ss.map strD))), .val (.dat (.lst (F.ws.map strD)))]) ?_ rfl (big (Nat.le_of_ble_eq_true rfl))) (Nat.le_of_ble_eq_true rfl)).trans rfl
    show evAs _ e = _
    simp only [evAs, evA, gn, g1, g2, g3, g4, g5, Option.map_some]
  | 1, _ => exact ⟨{ F with p := R.p }, _, _, ⟨hF.n, hR.p, hF.h, hF.as, hF.nd, hF.nn, hF.la, hF.ss, hF.ls, hF.ws, hF.lw⟩, rep { F with p := R.p } (strD R.p) (by decide) (by decide) rfl rfl, skip7 _ _ (by decide), skip8 _ _ (by decide)⟩
  | 2, _ => exact ⟨{ F with h := R.h }, _, _, ⟨hF.n, hF.p, hR.h, hF.as, hF.nd, hF.nn, hF.la, hF.ss, hF.ls, hF.ws, hF.lw⟩, rep { F with h := R.h } (strD R.h) (by decide) (by decide) rfl rfl, skip7 _ _ (by decide), skip8 _ _ (by decide)⟩
  | 4, _ => exact ⟨{ F with ss := R.ss }, _, _, ⟨hF.n, hF.p, hF.h, hF.as, hF.nd, hF.nn, hF.la, hR.ss, hR.ls, hF.ws, hF.lw⟩, rep { F with ss := R.ss } (.lst (R.ss.map strD)) (by decide) (by decide) rfl rfl, skip7 _ _ (by decide), skip8 _ _ (by decide)⟩
  | 5, _ => exact ⟨{ F with ws := R.ws }, _, _, ⟨hF.n, hF.p, hF.h, hF.as, hF.nd, hF.nn, hF.la, hF.ss, hF.ls, hR.ws, hR.lw⟩, rep { F with ws := R.ws } (.lst (R.ws.map strD)) (by decide) (by decide) rfl rfl, skip7 _ _ (by decide), skip8 _ _ (by decide)⟩
  | 3, _ =>
    let O : Fs := { F with as := F.as.reverse }
    have c := c6 (.lst F.D)
    refine ⟨O, _, _, ⟨hF.n, hF.p, hF.h, fun a ha => hF.as a (List.mem_reverse.mp ha), (List.reverse_perm F.as).nodup_iff.mpr hF.nd, fun z => hF.nn (List.mem_reverse.mp z), by show F.as.reverse.length ≤ 8; rw [List.length_reverse]; exact hF.la, hF.ss, hF.ls, hF.ws, hF.lw⟩, ifs_no c, skip7 _ _ (by decide), ?_⟩
    refine (ifs_t (c7 (.lst F.D) 3)).trans ?_
    let e : Env Γ := [s0, s1, s2, s3, s4, .lst F.D, .lst F.D, .dat (.int ((3 : Nat) : Int)), .lst R.D, s9, s10]
    have g3 : m2 pIx (.brw 6) (.ex (mC (.int 3))) e = some (.dat (.lst (F.as.map .int)), e) := ix_lst (b := 6) (k := 3) rfl rfl
    have rv : mFrz (m1 pRev (.ex (m2 pIx (.brw 6) (.ex (mC (.int 3)))))) e = some (.dat (.lst (F.as.reverse.map .int)), e) := by
      refine frz_lst (m1_ex g3 ?_)
      rw [List.map_reverse]
      rfl
    have ix : ixN F.D.length 3 = some 3 := rfl
    show mSetIx 6 _ _ e = _
    unfold mSetIx
    rw [rv]
    rfl
end
end K

/-! M00z: one turn of the law's loop; the law, by mkM00z.py -/
namespace K
open PySem L2 G
def nmsD : List G.D := [.str "number", .str "person", .str "house", .str "answers", .str "subject", .str "words"]
theorem nms_at {w : Nat} (h : w ≤ 5) : nmsD[w]? = some (.str (nmOf w)) := by
  match w, h with
  | 0, _ => rfl
  | 1, _ => rfl
  | 2, _ => rfl
  | 3, _ => rfl
  | 4, _ => rfl
  | 5, _ => rfl
theorem nms_ok (w : Nat) : okD (.str (nmOf w)) = true := by
  refine okD_str ?_
  unfold nmOf
  split <;> decide +kernel
section
variable {Γ : Gam}
theorem same {env : Env Γ} {i : Nat} {s : Sl Γ} (h : env[i]? = some s) : env.set i s = env := by
  have lt : i < env.length := (List.getElem?_eq_some_iff.mp h).1
  refine List.ext_getElem? fun k => ?_
  by_cases e : k = i
  · subst e; rw [h]; simp [lt]
  · rw [List.getElem?_set_ne (fun z => e z.symm)]
theorem call_l {f : Fn Γ} {env : Env Γ} {b : Nat} {ds : List G.D} {r : Sl Γ} (hb : env[b]? = some (.lst ds)) (he : f [.lst ds] = some (r, [.lst ds])) : mCall 1 f [.brw b] env = some (r, env) := by
  have := call_b1 (f := f) hb rfl he
  rw [same hb] at this
  exact this
theorem call_nn {f : Fn Γ} {env : Env Γ} {i j : Nat} {ns : List Int} {d : G.D} {r : Sl Γ} (h1 : env[i]? = some (.scr ns)) (h2 : env[j]? = some (.dat d)) (he : f [.scr ns, .dat d] = some (r, [.scr ns, .dat d])) : mCall 2 f [.brw i, .brw j] env = some (r, env) := by
  simp [mCall, evAs, evA, h1, h2, got, takeA, nonOwn, he, putA]
theorem own_xx {g : Fn Γ} {env : Env Γ} {fs gs : List (Str × Fd)} {f h : Ev Γ} {r : Sl Γ} (h1 : f env = some (.ins 0 fs, env)) (h2 : h env = some (.ins 0 gs, env)) (hg : g [.ins 0 fs, .ins 0 gs] = some (r, [.ins 0 fs, .ins 0 gs])) : mOwn (fitO 0) 0 g (.ex f) (.ex h) env = some (r, env) := by
  simp [mOwn, evAs, evA, h1, h2, peeks, peek, fitO, mGo, takeA, hg, putA]
theorem mN1 {p : Sl Γ → Option (Sl Γ)} {f : Ev Γ} {env e1 : Env Γ} {s u : Sl Γ} (h : f env = some (s, e1)) (hp : p s = some u) : mN (pN1 p) [.ex f] env = some (u, e1) := by
  simp only [mN, evAs, evA, h, Option.map_some, peeks, peek, pN1, hp]
abbrev turn : Es Γ := (mSeq (mSet 4 (mCall 2 f_law_bag [.brw 0, .brw 3])) (mSeq (mSet 5 (mCall 1 f_law_fields [.brw 4])) (mSeq (mIfS (mNotT (mT (.ex (mCall 1 f_law_is_made [.brw 5])))) (mRet (mC (.bl false))) (mNx)) (mSeq (mPar 6 7 (mN (pN1 pList) [.brw 5]) (mCall 2 f_law_take [.brw 4, .ex (mC (.int 6))])) (mSeq (mSet 8 (mCall 1 f_law_fields [.brw 4])) (mSeq (mIfS (mAndT (toT (m2 pNe (.brw 7) (.ex (mC (.int 3))))) (toT (m2 pNe (.brw 7) (.ex (mC (.int 0)))))) (mSetIx 6 (m2 pIx (.brw 8) (.brw 7)) (mVar 7)) (mNx)) (mSeq (mIfS (toT (m2 pEq (.brw 7) (.ex (mC (.int 0))))) (mSet 6 (mN pLstN [.ex (mFrz (m2 pAdd (.ex (m2 pMod (.ex (mN (pN1 pInt) [.ex (m2 pIx (.brw 5) (.ex (mC (.int 0))))])) (.ex (m2 pPow (.ex (mC (.int 10))) (.ex (mC (.int 30))))))) (.ex (mC (.int 1))))), .ex (m2 pIx (.brw 5) (.ex (mC (.int 1)))), .ex (m2 pIx (.brw 5) (.ex (mC (.int 2)))), .ex (mFrz (mN pLstN [])), .ex (m2 pIx (.brw 5) (.ex (mC (.int 4)))), .ex (m2 pIx (.brw 5) (.ex (mC (.int 5))))])) (mNx)) (mSeq (mIfS (toT (m2 pEq (.brw 7) (.ex (mC (.int 3))))) (mSetIx 6 (mFrz (m1 pRev (.ex (m2 pIx (.brw 6) (.ex (mC (.int 3))))))) (mC (.int 3))) (mNx)) (mSeq (mIfS (toT (m2 pNe (.ex (mOwn (fitO 0) 0 f_LT_eq (.ex (mCall 1 f_law_letter [.brw 5])) (.ex (mCall 1 f_law_letter [.brw 6])))) (.ex (m2 pEq (.brw 5) (.brw 6))))) (mRet (mC (.bl false))) (mNx)) (mSeq (mPar 9 10 (mN (pN1 pList) [.brw 5]) (mN (pN1 pSorted) [.ex (mN pLstN [.ex (mFrz (mCall 2 f_law_take [.brw 4, .ex (mC (.int 6))])), .ex (mFrz (mCall 2 f_law_take [.brw 4, .ex (mC (.int 6))]))])])) (mSeq (mFor (iSeq (mVar 10)) (gNm 7) (mSetIx 9 (mFrz (mCall 3 f_law_bad [.brw 4, .brw 7, .brw 9])) (mVar 7))) (mSeq (mIfS (mOrT (toT (m2 pNe (.ex (mCall 1 f_law_refused [.brw 9])) (.ex (m2 pIx (.brw 1) (.ex (m2 pIx (.brw 10) (.ex (mC (.int 0))))))))) (mNotT (mT (.ex (mCall 1 f_law_caught [.brw 9]))))) (mRet (mC (.bl false))) (mNx)) (mIfS (mOrT (toT (m2 pIsNot (.ex (mCall 1 f_law_refused [.brw 5])) (.ex (mC .non)))) (mOrT (mNotT (mT (.ex (mCall 1 f_law_is_made [.brw 5])))) (mNotT (mT (.ex (mCall 1 f_law_are_told [.brw 5])))))) (mRet (mC (.bl false))) (mNx))))))))))))))
theorem eval_turn {C : Addr} (hC : Γ.cls 0 = some (C, NS)) (ns : List Int) (fs0 : List (Str × Fd)) (at_ : Nat) (s4 s5 s6 s7 s8 s9 s10 : Sl Γ) : ∃ (t3 t4 t5 t6 t7 t8 t9 t10 : Sl Γ), turn [.scr ns, .lst nmsD, .ins 0 fs0, .dat (.int (at_ : Nat)), s4, s5, s6, s7, s8, s9, s10] = some (.nx, [.scr ns, .lst nmsD, .ins 0 fs0, t3, t4, t5, t6, t7, t8, t9, t10]) := by
  obtain ⟨b1, i1, k1⟩ := eval_bag (Γ := Γ) ns at_
  have q1 : mSet 4 (mCall 2 f_law_bag [.brw 0, .brw 3]) [.scr ns, .lst nmsD, .ins 0 fs0, .dat (.int (at_ : Nat)), s4, s5, s6, s7, s8, s9, s10] = some (.nx, [.scr ns, .lst nmsD, .ins 0 fs0, .dat (.int (at_ : Nat)), b1, s5, s6, s7, s8, s9, s10]) := (set_eq (call_nn (i := 0) (j := 3) (ns := ns) (d := .int (at_ : Nat)) rfl rfl k1) (Nat.le_of_ble_eq_true rfl)).trans rfl
  obtain ⟨F, b2, hF, i2, k2⟩ := call_fields (Γ := Γ) (env := [.scr ns, .lst nmsD, .ins 0 fs0, .dat (.int (at_ : Nat)), b1, s5, s6, s7, s8, s9, s10]) (b := 4) rfl i1
  have q2 : mSet 5 (mCall 1 f_law_fields [.brw 4]) [.scr ns, .lst nmsD, .ins 0 fs0, .dat (.int (at_ : Nat)), b1, s5, s6, s7, s8, s9, s10] = some (.nx, [.scr ns, .lst nmsD, .ins 0 fs0, .dat (.int (at_ : Nat)), b2, .lst F.D, s6, s7, s8, s9, s10]) := (set_eq k2 (Nat.le_of_ble_eq_true rfl)).trans rfl
  have md := eval_made (Γ := Γ) hC hF
  have q3 : mIfS (mNotT (mT (.ex (mCall 1 f_law_is_made [.brw 5])))) (mRet (mC (.bl false))) (mNx) [.scr ns, .lst nmsD, .ins 0 fs0, .dat (.int (at_ : Nat)), b2, .lst F.D, s6, s7, s8, s9, s10] = some (.nx, [.scr ns, .lst nmsD, .ins 0 fs0, .dat (.int (at_ : Nat)), b2, .lst F.D, s6, s7, s8, s9, s10]) := chk (b := true) (call_l (b := 5) (ds := F.D) rfl md)
  obtain ⟨p, b3, p0, p1, i3, k3⟩ := take_c (Γ := Γ) (env := [.scr ns, .lst nmsD, .ins 0 fs0, .dat (.int (at_ : Nat)), b2, .lst F.D, s6, s7, s8, s9, s10]) (b := 4) rfl i2 6 (by decide) (by decide)
  obtain ⟨pl, rfl⟩ : ∃ pl : Nat, p = (pl : Int) := ⟨p.toNat, by omega⟩
  have l5 : mN (pN1 pList) [.brw 5] ([.scr ns, .lst nmsD, .ins 0 fs0, .dat (.int (at_ : Nat)), b2, .lst F.D, s6, s7, s8, s9, s10] : Env Γ) = some (.lst F.D, [.scr ns, .lst nmsD, .ins 0 fs0, .dat (.int (at_ : Nat)), b2, .lst F.D, s6, s7, s8, s9, s10]) := rfl
  have q4 : mPar 6 7 (mN (pN1 pList) [.brw 5]) (mCall 2 f_law_take [.brw 4, .ex (mC (.int 6))]) [.scr ns, .lst nmsD, .ins 0 fs0, .dat (.int (at_ : Nat)), b2, .lst F.D, s6, s7, s8, s9, s10] = some (.nx, [.scr ns, .lst nmsD, .ins 0 fs0, .dat (.int (at_ : Nat)), b3, .lst F.D, .lst F.D, .dat (.int (pl : Nat)), s8, s9, s10]) := (par_eq l5 k3 (Nat.le_of_ble_eq_true rfl) (Nat.le_of_ble_eq_true rfl)).trans rfl
  obtain ⟨R, b4, hR, i4, k4⟩ := call_fields (Γ := Γ) (env := [.scr ns, .lst nmsD, .ins 0 fs0, .dat (.int (at_ : Nat)), b3, .lst F.D, .lst F.D, .dat (.int (pl : Nat)), s8, s9, s10]) (b := 4) rfl i3
  have q5 : mSet 8 (mCall 1 f_law_fields [.brw 4]) [.scr ns, .lst nmsD, .ins 0 fs0, .dat (.int (at_ : Nat)), b3, .lst F.D, .lst F.D, .dat (.int (pl : Nat)), s8, s9, s10] = some (.nx, [.scr ns, .lst nmsD, .ins 0 fs0, .dat (.int (at_ : Nat)), b4, .lst F.D, .lst F.D, .dat (.int (pl : Nat)), .lst R.D, s9, s10]) := (set_eq k4 (Nat.le_of_ble_eq_true rfl)).trans rfl
  obtain ⟨O, y6, y7, hO, q6, q7, q8⟩ := other (Γ := Γ) hF hR (s0 := .scr ns) (s1 := .lst nmsD) (s2 := .ins 0 fs0) (s3 := .dat (.int (at_ : Nat))) (s4 := b4) (s9 := s9) (s10 := s10) (pl := pl) (by omega)
  have q9 : mIfS (toT (m2 pNe (.ex (mOwn (fitO 0) 0 f_LT_eq (.ex (mCall 1 f_law_letter [.brw 5])) (.ex (mCall 1 f_law_letter [.brw 6])))) (.ex (m2 pEq (.brw 5) (.brw 6))))) (mRet (mC (.bl false))) (mNx) [.scr ns, .lst nmsD, .ins 0 fs0, .dat (.int (at_ : Nat)), b4, .lst F.D, .lst O.D, .dat (.int (pl : Nat)), .lst R.D, s9, s10] = some (.nx, [.scr ns, .lst nmsD, .ins 0 fs0, .dat (.int (at_ : Nat)), b4, .lst F.D, .lst O.D, .dat (.int (pl : Nat)), .lst R.D, s9, s10]) := by
    obtain ⟨t, c5⟩ := call_letter (Γ := Γ) hC hF (env := [.scr ns, .lst nmsD, .ins 0 fs0, .dat (.int (at_ : Nat)), b4, .lst F.D, .lst O.D, .dat (.int (pl : Nat)), .lst R.D, s9, s10]) (b := 5) rfl
    obtain ⟨t', c6⟩ := call_letter (Γ := Γ) hC hO (env := [.scr ns, .lst nmsD, .ins 0 fs0, .dat (.int (at_ : Nat)), b4, .lst F.D, .lst O.D, .dat (.int (pl : Nat)), .lst R.D, s9, s10]) (b := 6) rfl
    have oe := own_xx c5 c6 (eval_eq (Γ := Γ) hC hF hO t t')
    have oF : okD (.lst F.D) = true := lay_ok (lay_lst (lay_F hF)) (by decide)
    have oO : okD (.lst O.D) = true := lay_ok (lay_lst (lay_F hO)) (by decide)
    have ee : m2 pEq (.brw 5) (.brw 6) ([.scr ns, .lst nmsD, .ins 0 fs0, .dat (.int (at_ : Nat)), b4, .lst F.D, .lst O.D, .dat (.int (pl : Nat)), .lst R.D, s9, s10] : Env Γ) = some (.dat (.bl (eqF F O)), [.scr ns, .lst nmsD, .ins 0 fs0, .dat (.int (at_ : Nat)), b4, .lst F.D, .lst O.D, .dat (.int (pl : Nat)), .lst R.D, s9, s10]) := by
      have := eq_gen (Γ := Γ) (a := .brw 5) (b := .brw 6) (env := [.scr ns, .lst nmsD, .ins 0 fs0, .dat (.int (at_ : Nat)), b4, .lst F.D, .lst O.D, .dat (.int (pl : Nat)), .lst R.D, s9, s10]) (e1 := [.scr ns, .lst nmsD, .ins 0 fs0, .dat (.int (at_ : Nat)), b4, .lst F.D, .lst O.D, .dat (.int (pl : Nat)), .lst R.D, s9, s10]) (e2 := [.scr ns, .lst nmsD, .ins 0 fs0, .dat (.int (at_ : Nat)), b4, .lst F.D, .lst O.D, .dat (.int (pl : Nat)), .lst R.D, s9, s10]) (x := .brw 5) (y := .brw 6) (s := .lst F.D) (t := .lst O.D) rfl rfl rfl rfl rfl rfl oF oO
      rw [eq_F] at this
      exact this
    have c := ne_xx (Γ := Γ) oe ee (okD_bl _) (okD_bl _)
    rw [eqD_bl, decide_eq_true rfl] at c
    exact ifs_no c
  obtain ⟨a, b5, a0, a1, i5, k5⟩ := take_c (Γ := Γ) (env := [.scr ns, .lst nmsD, .ins 0 fs0, .dat (.int (at_ : Nat)), b4, .lst F.D, .lst O.D, .dat (.int (pl : Nat)), .lst R.D, s9, s10]) (b := 4) rfl i4 6 (by decide) (by decide)
  obtain ⟨b, b6, c0, c1, i6, k6⟩ := take_c (Γ := Γ) (env := [.scr ns, .lst nmsD, .ins 0 fs0, .dat (.int (at_ : Nat)), b5, .lst F.D, .lst O.D, .dat (.int (pl : Nat)), .lst R.D, s9, s10]) (b := 4) rfl i5 6 (by decide) (by decide)
  have srt : ∃ w v : Nat, w ≤ v ∧ v ≤ 5 ∧ sortI [a, b] = [(w : Int), (v : Int)] := by
    rw [sort2]
    by_cases h : a ≤ b
    · exact ⟨a.toNat, b.toNat, by omega, by omega, by rw [if_pos h, Int.toNat_of_nonneg a0, Int.toNat_of_nonneg c0]⟩
    · exact ⟨b.toNat, a.toNat, by omega, by omega, by rw [if_neg h, Int.toNat_of_nonneg a0, Int.toNat_of_nonneg c0]⟩
  obtain ⟨w, v, wv, v5, hsrt⟩ := srt
  have q10 : mPar 9 10 (mN (pN1 pList) [.brw 5]) (mN (pN1 pSorted) [.ex (mN pLstN [.ex (mFrz (mCall 2 f_law_take [.brw 4, .ex (mC (.int 6))])), .ex (mFrz (mCall 2 f_law_take [.brw 4, .ex (mC (.int 6))]))])]) [.scr ns, .lst nmsD, .ins 0 fs0, .dat (.int (at_ : Nat)), b4, .lst F.D, .lst O.D, .dat (.int (pl : Nat)), .lst R.D, s9, s10] = some (.nx, [.scr ns, .lst nmsD, .ins 0 fs0, .dat (.int (at_ : Nat)), b6, .lst F.D, .lst O.D, .dat (.int (pl : Nat)), .lst R.D, .lst F.D, .lst [.int (w : Nat), .int (v : Nat)]]) := by
    have la : mN (pN1 pList) [.brw 5] ([.scr ns, .lst nmsD, .ins 0 fs0, .dat (.int (at_ : Nat)), b4, .lst F.D, .lst O.D, .dat (.int (pl : Nat)), .lst R.D, s9, s10] : Env Γ) = some (.lst F.D, [.scr ns, .lst nmsD, .ins 0 fs0, .dat (.int (at_ : Nat)), b4, .lst F.D, .lst O.D, .dat (.int (pl : Nat)), .lst R.D, s9, s10]) := rfl
    have z5 := frz_dat k5
    have z6 := frz_dat k6
    have lb : mN pLstN [.ex (mFrz (mCall 2 f_law_take [.brw 4, .ex (mC (.int 6))])), .ex (mFrz (mCall 2 f_law_take [.brw 4, .ex (mC (.int 6))]))] ([.scr ns, .lst nmsD, .ins 0 fs0, .dat (.int (at_ : Nat)), b4, .lst F.D, .lst O.D, .dat (.int (pl : Nat)), .lst R.D, s9, s10] : Env Γ) = some (.lst [.int a, .int b], [.scr ns, .lst nmsD, .ins 0 fs0, .dat (.int (at_ : Nat)), b6, .lst F.D, .lst O.D, .dat (.int (pl : Nat)), .lst R.D, s9, s10]) := by
      refine lst_N (xs := [.val (.dat (.int a)), .val (.dat (.int b))]) ?_ rfl (big (Nat.le_of_ble_eq_true rfl))
      simp only [List.set_cons_succ, List.set_cons_zero] at z5 z6
      simp only [evAs, evA, z5, z6, Option.map_some]
    have lc : mN (pN1 pSorted) [.ex (mN pLstN [.ex (mFrz (mCall 2 f_law_take [.brw 4, .ex (mC (.int 6))])), .ex (mFrz (mCall 2 f_law_take [.brw 4, .ex (mC (.int 6))]))])] ([.scr ns, .lst nmsD, .ins 0 fs0, .dat (.int (at_ : Nat)), b4, .lst F.D, .lst O.D, .dat (.int (pl : Nat)), .lst R.D, s9, s10] : Env Γ) = some (.lst [.int (w : Nat), .int (v : Nat)], [.scr ns, .lst nmsD, .ins 0 fs0, .dat (.int (at_ : Nat)), b6, .lst F.D, .lst O.D, .dat (.int (pl : Nat)), .lst R.D, s9, s10]) := by
      have ps : pSorted (Γ := Γ) (.lst [.int a, .int b]) = some (.lst [.int (w : Nat), .int (v : Nat)]) := by
        show some (Sl.lst ((sortI [a, b]).map G.D.int)) = _
        rw [hsrt]
        rfl
      exact mN1 lb ps
    exact (par_eq la lc (Nat.le_of_ble_eq_true rfl) (Nat.le_of_ble_eq_true rfl)).trans rfl
  obtain ⟨x0, x1, x2, x3, x4, x5, b7, i7, ck, q11⟩ := spoil (Γ := Γ) hF (s0 := .scr ns) (s1 := .lst nmsD) (s2 := .ins 0 fs0) (s3 := .dat (.int (at_ : Nat))) (s := b6) (s5 := .lst F.D) (s6 := .lst O.D) (s7 := .dat (.int (pl : Nat))) (s8 := .lst R.D) (s10 := .dat (.lst [.int (w : Nat), .int (v : Nat)])) i6 wv v5
  have q11' : mFor (iSeq (mVar 10)) (gNm 7) (mSetIx 9 (mFrz (mCall 3 f_law_bad [.brw 4, .brw 7, .brw 9])) (mVar 7)) [.scr ns, .lst nmsD, .ins 0 fs0, .dat (.int (at_ : Nat)), b6, .lst F.D, .lst O.D, .dat (.int (pl : Nat)), .lst R.D, .lst F.D, .lst [.int (w : Nat), .int (v : Nat)]] = some (.nx, [.scr ns, .lst nmsD, .ins 0 fs0, .dat (.int (at_ : Nat)), b7, .lst F.D, .lst O.D, .dat (.int (v : Nat)), .lst R.D, .lst [x0, x1, x2, x3, x4, x5], .dat (.lst [.int (w : Nat), .int (v : Nat)])]) := for_eq (fi := iSeq (mVar 10)) (e1 := [.scr ns, .lst nmsD, .ins 0 fs0, .dat (.int (at_ : Nat)), b6, .lst F.D, .lst O.D, .dat (.int (pl : Nat)), .lst R.D, .lst F.D, .dat (.lst [.int (w : Nat), .int (v : Nat)])]) rfl q11
  have q12 : mIfS (mOrT (toT (m2 pNe (.ex (mCall 1 f_law_refused [.brw 9])) (.ex (m2 pIx (.brw 1) (.ex (m2 pIx (.brw 10) (.ex (mC (.int 0))))))))) (mNotT (mT (.ex (mCall 1 f_law_caught [.brw 9]))))) (mRet (mC (.bl false))) (mNx) [.scr ns, .lst nmsD, .ins 0 fs0, .dat (.int (at_ : Nat)), b7, .lst F.D, .lst O.D, .dat (.int (v : Nat)), .lst R.D, .lst [x0, x1, x2, x3, x4, x5], .dat (.lst [.int (w : Nat), .int (v : Nat)])] = some (.nx, [.scr ns, .lst nmsD, .ins 0 fs0, .dat (.int (at_ : Nat)), b7, .lst F.D, .lst O.D, .dat (.int (v : Nat)), .lst R.D, .lst [x0, x1, x2, x3, x4, x5], .dat (.lst [.int (w : Nat), .int (v : Nat)])]) := by
    have rf := call_l (env := [.scr ns, .lst nmsD, .ins 0 fs0, .dat (.int (at_ : Nat)), b7, .lst F.D, .lst O.D, .dat (.int (v : Nat)), .lst R.D, .lst [x0, x1, x2, x3, x4, x5], .dat (.lst [.int (w : Nat), .int (v : Nat)])]) (b := 9) rfl (eval_refused (Γ := Γ) ck)
    have ct := call_l (env := [.scr ns, .lst nmsD, .ins 0 fs0, .dat (.int (at_ : Nat)), b7, .lst F.D, .lst O.D, .dat (.int (v : Nat)), .lst R.D, .lst [x0, x1, x2, x3, x4, x5], .dat (.lst [.int (w : Nat), .int (v : Nat)])]) (b := 9) rfl (eval_caught (Γ := Γ) ck)
    have i10 : m2 pIx (.brw 10) (.ex (mC (.int 0))) ([.scr ns, .lst nmsD, .ins 0 fs0, .dat (.int (at_ : Nat)), b7, .lst F.D, .lst O.D, .dat (.int (v : Nat)), .lst R.D, .lst [x0, x1, x2, x3, x4, x5], .dat (.lst [.int (w : Nat), .int (v : Nat)])] : Env Γ) = some (.dat (.int (w : Nat)), [.scr ns, .lst nmsD, .ins 0 fs0, .dat (.int (at_ : Nat)), b7, .lst F.D, .lst O.D, .dat (.int (v : Nat)), .lst R.D, .lst [x0, x1, x2, x3, x4, x5], .dat (.lst [.int (w : Nat), .int (v : Nat)])]) := rfl
    have i1' : m2 pIx (.brw 1) (.ex (m2 pIx (.brw 10) (.ex (mC (.int 0))))) ([.scr ns, .lst nmsD, .ins 0 fs0, .dat (.int (at_ : Nat)), b7, .lst F.D, .lst O.D, .dat (.int (v : Nat)), .lst R.D, .lst [x0, x1, x2, x3, x4, x5], .dat (.lst [.int (w : Nat), .int (v : Nat)])] : Env Γ) = some (.dat (.str (nmOf w)), [.scr ns, .lst nmsD, .ins 0 fs0, .dat (.int (at_ : Nat)), b7, .lst F.D, .lst O.D, .dat (.int (v : Nat)), .lst R.D, .lst [x0, x1, x2, x3, x4, x5], .dat (.lst [.int (w : Nat), .int (v : Nat)])]) := by
      have ip : pIx (Γ := Γ) (.lst nmsD) (.dat (.int (w : Nat))) = some (.dat (.str (nmOf w))) := by
        have ix : atI nmsD (w : Int) = some (.str (nmOf w)) := by
          have l6 : nmsD.length = 6 := rfl
          unfold atI ixN
          rw [if_pos (by omega), if_pos (by rw [l6]; omega)]
          simpa using nms_at (w := w) (by omega)
        unfold pIx
        simp only [Sl.view, ix, Option.map_some]
      simp only [m2, evA, got, List.getElem?_cons_succ, List.getElem?_cons_zero, Option.map_some]
      simp only [m2, evA, got, List.getElem?_cons_succ, List.getElem?_cons_zero, Option.map_some] at i10
      erw [i10]
      simp only [Option.map_some, peek, got, List.getElem?_cons_succ, List.getElem?_cons_zero, ip]
    have c := ne_xx (Γ := Γ) rf i1' (nms_ok w) (nms_ok w)
    rw [eqD_str, decide_eq_true rfl] at c
    exact ifs_no ((or_f c).trans (not_t ct))
  have q13 : mIfS (mOrT (toT (m2 pIsNot (.ex (mCall 1 f_law_refused [.brw 5])) (.ex (mC .non)))) (mOrT (mNotT (mT (.ex (mCall 1 f_law_is_made [.brw 5])))) (mNotT (mT (.ex (mCall 1 f_law_are_told [.brw 5])))))) (mRet (mC (.bl false))) (mNx) [.scr ns, .lst nmsD, .ins 0 fs0, .dat (.int (at_ : Nat)), b7, .lst F.D, .lst O.D, .dat (.int (v : Nat)), .lst R.D, .lst [x0, x1, x2, x3, x4, x5], .dat (.lst [.int (w : Nat), .int (v : Nat)])] = some (.nx, [.scr ns, .lst nmsD, .ins 0 fs0, .dat (.int (at_ : Nat)), b7, .lst F.D, .lst O.D, .dat (.int (v : Nat)), .lst R.D, .lst [x0, x1, x2, x3, x4, x5], .dat (.lst [.int (w : Nat), .int (v : Nat)])]) := by
    have rf := call_l (env := [.scr ns, .lst nmsD, .ins 0 fs0, .dat (.int (at_ : Nat)), b7, .lst F.D, .lst O.D, .dat (.int (v : Nat)), .lst R.D, .lst [x0, x1, x2, x3, x4, x5], .dat (.lst [.int (w : Nat), .int (v : Nat)])]) (b := 5) rfl (eval_refused_ok (Γ := Γ) hC hF)
    have m' := call_l (env := [.scr ns, .lst nmsD, .ins 0 fs0, .dat (.int (at_ : Nat)), b7, .lst F.D, .lst O.D, .dat (.int (v : Nat)), .lst R.D, .lst [x0, x1, x2, x3, x4, x5], .dat (.lst [.int (w : Nat), .int (v : Nat)])]) (b := 5) rfl md
    have tl := call_l (env := [.scr ns, .lst nmsD, .ins 0 fs0, .dat (.int (at_ : Nat)), b7, .lst F.D, .lst O.D, .dat (.int (v : Nat)), .lst R.D, .lst [x0, x1, x2, x3, x4, x5], .dat (.lst [.int (w : Nat), .int (v : Nat)])]) (b := 5) rfl (eval_told (Γ := Γ) hF)
    have c : toT (m2 pIsNot (.ex (mCall 1 f_law_refused [.brw 5])) (.ex (mC .non))) ([.scr ns, .lst nmsD, .ins 0 fs0, .dat (.int (at_ : Nat)), b7, .lst F.D, .lst O.D, .dat (.int (v : Nat)), .lst R.D, .lst [x0, x1, x2, x3, x4, x5], .dat (.lst [.int (w : Nat), .int (v : Nat)])] : Env Γ) = some (false, [.scr ns, .lst nmsD, .ins 0 fs0, .dat (.int (at_ : Nat)), b7, .lst F.D, .lst O.D, .dat (.int (v : Nat)), .lst R.D, .lst [x0, x1, x2, x3, x4, x5], .dat (.lst [.int (w : Nat), .int (v : Nat)])]) := by
      unfold toT
      rw [m2_ex (t := .dat .non) (u := .dat (.bl false)) rf rfl rfl]
    exact ifs_no ((or_f c).trans ((or_f (not_t m')).trans (not_t tl)))
  refine ⟨.dat (.int (at_ : Nat)), b7, .lst F.D, .lst O.D, .dat (.int (v : Nat)), .lst R.D, .lst [x0, x1, x2, x3, x4, x5], .dat (.lst [.int (w : Nat), .int (v : Nat)]), ?_⟩
  exact (seq_nx q1).trans ((seq_nx q2).trans ((seq_nx q3).trans ((seq_nx q4).trans ((seq_nx q5).trans ((seq_nx q6).trans ((seq_nx q7).trans ((seq_nx q8).trans ((seq_nx q9).trans ((seq_nx q10).trans ((seq_nx q11').trans ((seq_nx q12).trans q13)))))))))))
def F0 : Fs := ⟨5, [97, 110, 110], [111, 97, 107], [], [], []⟩
theorem F0_ok : F0.ok := ⟨⟨by decide, by decide⟩, ⟨by decide, by decide, by decide⟩, ⟨by decide, by decide, by decide⟩, fun _ z => (nomatch z), .nil, fun z => (nomatch z), by decide, fun _ z => (nomatch z), by decide, fun _ z => (nomatch z), by decide⟩
theorem ann : (.str "ann" : G.D) = strD [97, 110, 110] := by
  have : ("ann" : Str) = SX.S [97, 110, 110] := by decide +kernel
  unfold strD
  rw [this]
theorem oak : (.str "oak" : G.D) = strD [111, 97, 107] := by
  have : ("oak" : Str) = SX.S [111, 97, 107] := by decide +kernel
  unfold strD
  rw [this]
theorem law_true : ∀ (Γ : Gam), (∃ C : Addr, Γ.cls 0 = some (C, NS)) → ∀ ns : List Int, ns.length ≤ 63 → ∃ args', f_law (Γ := Γ) [.scr ns] = some (.dat (.bl true), args') := by
  intro Γ ⟨C, hC⟩ ns hl
  obtain ⟨H1, H2, H3, H4, H5, H6, H7, H8⟩ := has_of hC
  let n8 : Env Γ := [.none, .none, .none, .none, .none, .none, .none, .none]
  obtain ⟨t0, i0⟩ := eval_init (Γ := Γ) hC F0_ok (a4 := .dat (.tup [])) (b4 := .dat (.tup [])) (a5 := .dat (.tup [])) (b5 := .dat (.tup [])) (a6 := .dat (.tup [])) (b6 := .dat (.tup [])) (.inr (.inr ⟨rfl, rfl⟩)) (.inr rfl) (.inr (.inr ⟨rfl, rfl⟩)) (.inr (.inr ⟨rfl, rfl⟩))
  obtain ⟨t1, i1⟩ := eval_init (Γ := Γ) hC F0_ok (a4 := .dat (.tup [])) (b4 := .dat (.tup [])) (a5 := .dat (.tup [])) (b5 := .dat (.tup [])) (a6 := .lst []) (b6 := .dat (.lst [])) (.inr (.inr ⟨rfl, rfl⟩)) (.inr rfl) (.inr (.inr ⟨rfl, rfl⟩)) (.inl ⟨rfl, rfl⟩)
  let fs0 := ltF F0 t0
  have p1 : mSet 1 (mN pLstN [.ex (mC (.str "number")), .ex (mC (.str "person")), .ex (mC (.str "house")), .ex (mC (.str "answers")), .ex (mC (.str "subject")), .ex (mC (.str "words"))]) ([.scr ns, .none, .none, .none, .none, .none, .none, .none, .none, .none, .none] : Env Γ) = some (.nx, [.scr ns, .lst nmsD, .none, .none, .none, .none, .none, .none, .none, .none, .none]) := rfl
  let eS : Env Γ := [.scr ns, .lst nmsD, .ins 0 fs0, .none, .none, .none, .none, .none, .none, .none, .none]
  have p2 : mSet 2 (mMakeK 0 7 f_LT_init 3 [.tup [], .tup [], .tup []] [.ex (mC (.int 5)), .ex (mC (.str "ann")), .ex (mC (.str "oak"))]) ([.scr ns, .lst nmsD, .none, .none, .none, .none, .none, .none, .none, .none, .none] : Env Γ) = some (.nx, eS) := by
    rw [ann, oak]
    refine (set_eq (e1 := [.scr ns, .lst nmsD, .none, .none, .none, .none, .none, .none, .none, .none, .none]) (s := .ins 0 fs0) ?_ (Nat.le_of_ble_eq_true rfl)).trans rfl
    have i0' : f_LT_init (Γ := Γ) [.ins 0 [], .dat (.int 5), .dat (strD [97, 110, 110]), .dat (strD [111, 97, 107]), .dat (.tup []), .dat (.tup []), .dat (.tup [])] = some (.dat .non, [.ins 0 fs0, .dat (.int 5), .dat (strD [97, 110, 110]), .dat (strD [111, 97, 107]), .dat (.tup []), .dat (.tup []), .dat (.tup [])]) := i0
    simp [mMakeK, evAs, evA, mC, insA, takeA, i0', putA]
  have p3 : mIfS (mOrT (toT (m2 pNe (.ex (mQ (.pl (.fl 2 "answers")))) (.ex (mN pTupN [])))) (mOrT (toT (m2 pNe (.ex (mQ (.pl (.fl 2 "subject")))) (.ex (mN pTupN [])))) (mOrT (toT (m2 pNe (.ex (mQ (.pl (.fl 2 "words")))) (.ex (mN pTupN [])))) (toT (mOwnN 0 f_LT_eq (.brw 2) (.ex (mMakeK 0 7 f_LT_init 3 [.tup [], .tup []] [.ex (mC (.int 5)), .ex (mC (.str "ann")), .ex (mC (.str "oak")), .ex (mN pLstN [])]))))))) (mRet (mC (.bl false))) (mNx) eS = some (.nx, eS) := by
    rw [ann, oak]
    have fa : mQ (.pl (.fl 2 "answers")) eS = some (.dat (.tup []), eS) := fl_get (fs := fs0) rfl H5 rfl
    have fu : mQ (.pl (.fl 2 "subject")) eS = some (.dat (.tup []), eS) := fl_get (fs := fs0) rfl H6 rfl
    have fw : mQ (.pl (.fl 2 "words")) eS = some (.dat (.tup []), eS) := fl_get (fs := fs0) rfl H7 rfl
    have te : mN pTupN [] eS = some (.dat (.tup []), eS) := rfl
    have ok : okD (.tup []) = true := lay_ok (lay_tup (k := 0) (ds := []) fun _ z => (nomatch z)) (by decide)
    have ca := ne_xx (Γ := Γ) fa te ok ok
    have cu := ne_xx (Γ := Γ) fu te ok ok
    have cw := ne_xx (Γ := Γ) fw te ok ok
    have es : eqD (.tup []) (.tup []) = true := eq_tints [] []
    rw [es] at ca cu cw
    have i1' : f_LT_init (Γ := Γ) [.ins 0 [], .dat (.int 5), .dat (strD [97, 110, 110]), .dat (strD [111, 97, 107]), .dat (.tup []), .dat (.tup []), .lst []] = some (.dat .non, [.ins 0 (ltF F0 t1), .dat (.int 5), .dat (strD [97, 110, 110]), .dat (strD [111, 97, 107]), .dat (.tup []), .dat (.tup []), .dat (.lst [])]) := i1
    have mk : mMakeK 0 7 f_LT_init 3 [.tup [], .tup []] [.ex (mC (.int 5)), .ex (mC (strD [97, 110, 110])), .ex (mC (strD [111, 97, 107])), .ex (mN pLstN [])] eS = some (.ins 0 (ltF F0 t1), eS) := by
      have l0 : mN pLstN [] eS = some (.lst [], eS) := rfl
      simp [mMakeK, evAs, evA, mC, l0, insA, takeA, i1', putA]
    have ee := eval_eq (Γ := Γ) hC F0_ok F0_ok t0 t1
    rw [eqF_self] at ee
    have ow : toT (mOwnN 0 f_LT_eq (.brw 2) (.ex (mMakeK 0 7 f_LT_init 3 [.tup [], .tup []] [.ex (mC (.int 5)), .ex (mC (strD [97, 110, 110])), .ex (mC (strD [111, 97, 107])), .ex (mN pLstN [])]))) eS = some (false, eS) := by
      unfold toT mOwnN
      rw [own_go (Γ := Γ) (fit := fitN 0) (env := eS) (e1 := eS) (i := 2) (fs := fs0) rfl mk rfl ee]
      rfl
    exact ifs_no ((or_f ca).trans ((or_f cu).trans ((or_f cw).trans ow)))
  -- the loop
  have rn : ∃ m : Int, 0 ≤ m ∧ m ≤ 3 ∧ mN (pN2 pMax2) [.ex (mC (.int 1)), .ex (mN (pN2 pMin2) [.ex (mC (.int 3)), .ex (mN (pN1 pLen) [.brw 0])])] eS = some (.dat (.int m), eS) := by
    have l0 : mN (pN1 pLen) [.brw 0] eS = some (.dat (.int ns.length), eS) := by
      have z : (ns.map G.D.int).length = ns.length := List.length_map _
      show some (Sl.dat (.int ((ns.map G.D.int).length : Nat)), eS) = _
      rw [z]
    have l1 : mN (pN2 pMin2) [.ex (mC (.int 3)), .ex (mN (pN1 pLen) [.brw 0])] eS = some (.dat (.int (if (ns.length : Int) < 3 then (ns.length : Int) else 3)), eS) := by
      simp only [mN, evAs, evA, mC, Option.map_some, peeks, peek, pN1, pN2, pMin2, p0, Sl.view] at l0 ⊢
      erw [l0]
      rfl
    refine ⟨if (if (ns.length : Int) < 3 then (ns.length : Int) else 3) > 1 then (if (ns.length : Int) < 3 then (ns.length : Int) else 3) else 1, ?_, ?_, ?_⟩
    · split <;> split <;> omega
    · split <;> split <;> omega
    · simp only [mN, evAs, evA, mC, Option.map_some, peeks, peek, pN1, pN2, pMin2, pMax2, p0, Sl.view] at l1 ⊢
      erw [l1]
      rfl
  obtain ⟨m, m0, m3, rn⟩ := rn
  obtain ⟨e, lp, ⟨u3, u4, u5, u6, u7, u8, u9, u10, he⟩, _⟩ := forL_run (Γ := Γ) (t := gNm 3) (g := turn) (fun ds env => (∃ u3 u4 u5 u6 u7 u8 u9 u10, env = [.scr ns, .lst nmsD, .ins 0 fs0, u3, u4, u5, u6, u7, u8, u9, u10]) ∧ ∀ d ∈ ds, ∃ k : Nat, d = .int (k : Nat)) (fun d ds env ⟨⟨u3, u4, u5, u6, u7, u8, u9, u10, he⟩, hd⟩ => by
      subst he
      obtain ⟨k, rfl⟩ := hd d List.mem_cons_self
      obtain ⟨t3, t4, t5, t6, t7, t8, t9, t10, tt⟩ := eval_turn (Γ := Γ) hC ns fs0 k u4 u5 u6 u7 u8 u9 u10
      exact ⟨_, _, rfl, tt, ⟨t3, t4, t5, t6, t7, t8, t9, t10, rfl⟩, fun d hd' => hd d (List.mem_cons_of_mem _ hd')⟩)
    ((List.range m.toNat).map fun (k : Nat) => G.D.int (k : Int)) eS ⟨⟨.none, .none, .none, .none, .none, .none, .none, .none, rfl⟩, fun d hd => by
      obtain ⟨k, _, rfl⟩ := List.mem_map.mp hd
      exact ⟨k, rfl⟩⟩
  subst he
  have p4 := for_eq (Γ := Γ) (rng_eq rn m0 (by omega)) lp
  unfold f_law b_law
  refine ⟨_, fun_rt (s := .dat (.bl true)) (e' := [.scr ns, .lst nmsD, .ins 0 fs0, u3, u4, u5, u6, u7, u8, u9, u10]) rfl rfl ((seq_nx p1).trans ((seq_nx p2).trans ((seq_nx p3).trans ((seq_nx p4).trans rfl))))⟩
end
end K

/-! the end of k00, by mkE00.py -/
namespace K
open PySem L2 G
/-- the class of the text -/
def gam (K : PySem.W.Frag) (C : Addr) : Gam where
  K := K
  cls := fun c => match c with | 0 => some (C, ["number", "person", "house", "sender", "answers", "subject", "words", "text"]) | _ => none
  Ob := Empty
  orep := fun _ _ _ o _ => nomatch o
  omono := fun _ _ _ _ _ o => nomatch o
/-- the class has these attributes -/
def Has8 (Γ : Gam) : Prop := ∀ f ∈ (["number", "person", "house", "sender", "answers", "subject", "words", "text"] : List Str), Γ.has 0 f = true
def LawTrue : Prop := ∀ (Γ : Gam), (∃ C : Addr, Γ.cls 0 = some (C, (["number", "person", "house", "sender", "answers", "subject", "words", "text"] : List Str))) → ∀ ns : List Int, ns.length ≤ 63 → ∃ args', f_law (Γ := Γ) [.scr ns] = some (.dat (.bl true), args')
/-- a list of at most 63 ints comes in, True comes out -/
def spLaw (K : PySem.W.Frag) : Sp := fun vs H Q _ => ∃ (a : Addr) (ns : List Int), vs = [.ref a] ∧ SqL K H a (ns.map V.int) ∧ ns.length ≤ 63 ∧ ∀ H', Q (.bl true) H'
theorem spLaw_sp (hL : LawTrue) {K : PySem.W.Frag} {C : Addr} {vs : List V} {H : Hp} {Q : VK} {E : XK} (h : spLaw K vs H Q E) : spG (gam K C) 1 f_law vs H Q E := by
  obtain ⟨a, ns, rfl, hS, hl, k⟩ := h
  obtain ⟨args', e⟩ := hL (gam K C) ⟨C, rfl⟩ ns hl
  refine ⟨[.scr ns], .dat (.bl true), args', ⟨fun _ => False, fun _ _ => False, H⟩, e, rfl, rfl, ⟨rfl, fun i s hi => ?_, fun _ _ z => z, fun _ _ _ z => z.elim, fun _ z => z.elim, fun _ _ _ z => z⟩, fun v w' Fr E' T' p' f' => ?_⟩
  · match i, hi with
    | 0, hi =>
      cases hi
      refine .inr ⟨.ref a, rfl, ⟨a, rfl, ?_⟩, fun _ z => z⟩
      rcases hS with z | z
      · exact .inl ⟨fun q => q, z⟩
      · exact .inr fun H' => .inr z
    | n + 1, hi => cases hi
  · cases T'.bl
    exact k _
theorem kit_self {K : PySem.W.Frag} {v : Value} : PySem.W.kitOne K v v = some true := by
  unfold PySem.W.kitOne
  rw [if_pos (beq_self_eq_true _)]
theorem kit_not {K : PySem.W.Frag} {T : String} {C : Addr} (h1 : PySem.W.isClsIn K C = true) (h2 : PySem.W.typeIn K (.ref C) = some (.type "type")) (h3 : PySem.W.subIn K (.type T) (.ref C) = some false) : PySem.W.kitOne K (.type T) (.ref C) = some false := by
  unfold PySem.W.isClsIn at h1
  unfold PySem.W.kitOne PySem.W.kitCls
  rw [if_neg (fun q => by cases beq_iff_eq.mp q)]
  show (if ((PySem.W.clsIn K C).isSome && PySem.W.typeIn K (.ref C) == some (.type "type")) = true then PySem.W.subIn K (.type T) (.ref C) else none) = some false
  rw [h1, h2, h3]
  rfl
theorem exm_is {K : PySem.W.Frag} {A S : Addr} {b : Bool} (h1 : PySem.W.subIn K (.ref S) (.type "BaseException") = some true) (h2 : PySem.W.isClsIn K S = true) (h3 : PySem.W.typeIn K (.ref S) = some (.type "type")) (h4 : PySem.W.subIn K (.ref A) (.ref S) = some b) : PySem.W.exmOne K (.ref A) (.ref S) = some b := by
  unfold PySem.W.isClsIn at h2
  unfold PySem.W.exmOne PySem.W.kitCls
  rw [h1, if_pos (by rfl)]
  show (if ((PySem.W.clsIn K S).isSome && PySem.W.typeIn K (.ref S) == some (.type "type")) = true then PySem.W.subIn K (.ref A) (.ref S) else none) = some b
  rw [h2, h3, h4]
  rfl
theorem all_mk (hL : LawTrue) {l : PySem.W.OpenLaw} {w : World} {K : PySem.W.Frag} {h : Heap} {mg : Str → Option Value} {fa C CB CC CM : Addr} (X : K.In h) (G : h.Ns mainGlobals mg) (hfa : mg "law" = some (.ref fa))
    {ginit : Addr} {odinit aninit : Option Addr} {slinit : Array (Option Value)} {ocinit dcinit pminit cdinit ctinit : Value} {kDi tA tS tW : Addr} {ddA ddS ddW : Option Addr} {nA nS nW : Nat} {saA saS saW : Array (Option Value)}
    {geq : Addr} {odeq aneq : Option Addr} {sleq : Array (Option Value)} {oceq dceq pmeq cdeq cteq : Value} {kVeq : Value}
    {gis_name : Addr} {odis_name anis_name : Option Addr} {slis_name : Array (Option Value)} {ocis_name kVis_name dcis_name pmis_name cdis_name ctis_name : Value}
    {gis_number : Addr} {odis_number anis_number : Option Addr} {slis_number : Array (Option Value)} {ocis_number kVis_number dcis_number pmis_number cdis_number ctis_number : Value}
    {gare_names : Addr} {odare_names anare_names : Option Addr} {slare_names : Array (Option Value)} {ocare_names kVare_names dcare_names pmare_names cdare_names ctare_names : Value}
    {gfits_answers : Addr} {odfits_answers anfits_answers : Option Addr} {slfits_answers : Array (Option Value)} {ocfits_answers kVfits_answers dcfits_answers pmfits_answers cdfits_answers ctfits_answers : Value}
    {gwrapped : Addr} {odwrapped anwrapped : Option Addr} {slwrapped : Array (Option Value)} {ocwrapped kVwrapped dcwrapped pmwrapped cdwrapped ctwrapped : Value}
    {gbody_rows : Addr} {odbody_rows anbody_rows : Option Addr} {slbody_rows : Array (Option Value)} {ocbody_rows kVbody_rows dcbody_rows pmbody_rows cdbody_rows ctbody_rows : Value}
    {glaw_bag : Addr} {odlaw_bag anlaw_bag : Option Addr} {sllaw_bag : Array (Option Value)} {oclaw_bag kVlaw_bag dclaw_bag pmlaw_bag cdlaw_bag ctlaw_bag : Value}
    {glaw_take : Addr} {odlaw_take anlaw_take : Option Addr} {sllaw_take : Array (Option Value)} {oclaw_take kVlaw_take dclaw_take pmlaw_take cdlaw_take ctlaw_take : Value}
    {glaw_name : Addr} {odlaw_name anlaw_name : Option Addr} {sllaw_name : Array (Option Value)} {oclaw_name kVlaw_name dclaw_name pmlaw_name cdlaw_name ctlaw_name : Value}
    {glaw_names : Addr} {odlaw_names anlaw_names : Option Addr} {sllaw_names : Array (Option Value)} {oclaw_names kVlaw_names dclaw_names pmlaw_names cdlaw_names ctlaw_names : Value}
    {glaw_number : Addr} {odlaw_number anlaw_number : Option Addr} {sllaw_number : Array (Option Value)} {oclaw_number kVlaw_number dclaw_number pmlaw_number cdlaw_number ctlaw_number : Value}
    {glaw_answers : Addr} {odlaw_answers anlaw_answers : Option Addr} {sllaw_answers : Array (Option Value)} {oclaw_answers kVlaw_answers dclaw_answers pmlaw_answers cdlaw_answers ctlaw_answers : Value}
    {glaw_fields : Addr} {odlaw_fields anlaw_fields : Option Addr} {sllaw_fields : Array (Option Value)} {oclaw_fields kVlaw_fields dclaw_fields pmlaw_fields cdlaw_fields ctlaw_fields : Value}
    {glaw_letter : Addr} {odlaw_letter anlaw_letter : Option Addr} {sllaw_letter : Array (Option Value)} {oclaw_letter kVlaw_letter dclaw_letter pmlaw_letter cdlaw_letter ctlaw_letter : Value}
    {glaw_bad : Addr} {odlaw_bad anlaw_bad : Option Addr} {sllaw_bad : Array (Option Value)} {oclaw_bad kVlaw_bad dclaw_bad pmlaw_bad cdlaw_bad ctlaw_bad : Value}
    {glaw_refused : Addr} {odlaw_refused anlaw_refused : Option Addr} {sllaw_refused : Array (Option Value)} {oclaw_refused kVlaw_refused dclaw_refused pmlaw_refused cdlaw_refused ctlaw_refused : Value}
    {glaw_caught : Addr} {odlaw_caught anlaw_caught : Option Addr} {sllaw_caught : Array (Option Value)} {oclaw_caught kVlaw_caught dclaw_caught pmlaw_caught cdlaw_caught ctlaw_caught : Value}
    {glaw_are_told : Addr} {odlaw_are_told anlaw_are_told : Option Addr} {sllaw_are_told : Array (Option Value)} {oclaw_are_told kVlaw_are_told dclaw_are_told pmlaw_are_told cdlaw_are_told ctlaw_are_told : Value}
    {glaw_is_made : Addr} {odlaw_is_made anlaw_is_made : Option Addr} {sllaw_is_made : Array (Option Value)} {oclaw_is_made kVlaw_is_made dclaw_is_made pmlaw_is_made cdlaw_is_made ctlaw_is_made : Value}
    {glaw : Addr} {odlaw anlaw : Option Addr} {sllaw : Array (Option Value)} {oclaw kVlaw dclaw pmlaw cdlaw ctlaw : Value}
    {tokANSWERS_IN_ROW : Tok}
    {tokMOST_NUMBER : Tok}
    {tokMOST_SIGNS : Tok}
    {tokSIGNS : Tok}
    {tokSUBJECT_IN_ROW : Tok}
    {tokWORDS_IN_ROW : Tok}
    {tkA tkS tkW : Tok}
    {nmB qB : Str} {NB : Addr} {bsB : List Value} {snB : List Str} {subB : List Value} {abB : Bool} {colB : Option Bool} {ddB : Option Addr} {m0B m1B m2B m3B m5B : Option Value}
    {fI ccB cdaB : Addr} {odB anB cddB cldB : Option Addr} {slB ccsB cslB : Array (Option Value)} {ocB kVB dcB pmB ctB cclB clB : Value} {vsB : Array Value} {fileB : Str} {tfB : Tok}
    (aC : PySem.W.nsIn K mainGlobals "Letter" = some (some (.ref C)))
    (aCB : PySem.W.nsIn K mainGlobals "BadLetter" = some (some (.ref CB)))
    (aCC : PySem.W.nsIn K mainGlobals "Clash" = some (some (.ref CC)))
    (aCM : PySem.W.nsIn K mainGlobals "MailError" = some (some (.ref CM)))
    (ainit : PySem.W.findIn K (.ref C) "__init__" = some (some (.ref ginit)))
    (iinit : PySem.W.isFn K (.ref ginit) = true)
    (linit : K.lookup ginit = some ⟨ocinit, odinit, .func (PySem.W.fnOf "__init__" "Letter.__init__" (defArgs s_LT_init) (defBody s_LT_init) (defScope s_LT_init) .none (.ref kDi) dcinit pminit aninit cdinit ctinit), slinit⟩)
    (cinit : PySem.W.codeIn K cdinit "Letter.__init__" = true)
    (kinit : PySem.W.keepIn K (.ref ginit) = true)
    (aeq : PySem.W.findIn K (.ref C) "__eq__" = some (some (.ref geq)))
    (ieq : PySem.W.isFn K (.ref geq) = true)
    (leq : K.lookup geq = some ⟨oceq, odeq, .func (PySem.W.fnOf "__eq__" "Letter.__eq__" (defArgs s_LT_eq) (defBody s_LT_eq) (defScope s_LT_eq) .none kVeq dceq pmeq aneq cdeq cteq), sleq⟩)
    (ceq : PySem.W.codeIn K cdeq "Letter.__eq__" = true)
    (keq : PySem.W.keepIn K (.ref geq) = true)
    (kwA : PySem.W.nsIn K kDi "answers" = some (some (.ref tA)))
    (tuA : K.lookup tA = some ⟨.type "tuple", ddA, .seq #[] nA, saA⟩)
    (kwS : PySem.W.nsIn K kDi "subject" = some (some (.ref tS)))
    (tuS : K.lookup tS = some ⟨.type "tuple", ddS, .seq #[] nS, saS⟩)
    (kwW : PySem.W.nsIn K kDi "words" = some (some (.ref tW)))
    (tuW : K.lookup tW = some ⟨.type "tuple", ddW, .seq #[] nW, saW⟩)
    (ais_name : PySem.W.nsIn K mainGlobals "is_name" = some (some (.ref gis_name)))
    (lis_name : K.lookup gis_name = some ⟨ocis_name, odis_name, .func (PySem.W.fnOf "is_name" "is_name" (defArgs s_is_name) (defBody s_is_name) (defScope s_is_name) .none kVis_name dcis_name pmis_name anis_name cdis_name ctis_name), slis_name⟩)
    (cis_name : PySem.W.codeIn K cdis_name "is_name" = true)
    (kis_name : PySem.W.keepIn K (.ref gis_name) = true)
    (ais_number : PySem.W.nsIn K mainGlobals "is_number" = some (some (.ref gis_number)))
    (lis_number : K.lookup gis_number = some ⟨ocis_number, odis_number, .func (PySem.W.fnOf "is_number" "is_number" (defArgs s_is_number) (defBody s_is_number) (defScope s_is_number) .none kVis_number dcis_number pmis_number anis_number cdis_number ctis_number), slis_number⟩)
    (cis_number : PySem.W.codeIn K cdis_number "is_number" = true)
    (kis_number : PySem.W.keepIn K (.ref gis_number) = true)
    (aare_names : PySem.W.nsIn K mainGlobals "are_names" = some (some (.ref gare_names)))
    (lare_names : K.lookup gare_names = some ⟨ocare_names, odare_names, .func (PySem.W.fnOf "are_names" "are_names" (defArgs s_are_names) (defBody s_are_names) (defScope s_are_names) .none kVare_names dcare_names pmare_names anare_names cdare_names ctare_names), slare_names⟩)
    (care_names : PySem.W.codeIn K cdare_names "are_names" = true)
    (kare_names : PySem.W.keepIn K (.ref gare_names) = true)
    (afits_answers : PySem.W.nsIn K mainGlobals "fits_answers" = some (some (.ref gfits_answers)))
    (lfits_answers : K.lookup gfits_answers = some ⟨ocfits_answers, odfits_answers, .func (PySem.W.fnOf "fits_answers" "fits_answers" (defArgs s_fits_answers) (defBody s_fits_answers) (defScope s_fits_answers) .none kVfits_answers dcfits_answers pmfits_answers anfits_answers cdfits_answers ctfits_answers), slfits_answers⟩)
    (cfits_answers : PySem.W.codeIn K cdfits_answers "fits_answers" = true)
    (kfits_answers : PySem.W.keepIn K (.ref gfits_answers) = true)
    (awrapped : PySem.W.nsIn K mainGlobals "wrapped" = some (some (.ref gwrapped)))
    (lwrapped : K.lookup gwrapped = some ⟨ocwrapped, odwrapped, .func (PySem.W.fnOf "wrapped" "wrapped" (defArgs s_wrapped) (defBody s_wrapped) (defScope s_wrapped) .none kVwrapped dcwrapped pmwrapped anwrapped cdwrapped ctwrapped), slwrapped⟩)
    (cwrapped : PySem.W.codeIn K cdwrapped "wrapped" = true)
    (kwrapped : PySem.W.keepIn K (.ref gwrapped) = true)
    (abody_rows : PySem.W.nsIn K mainGlobals "body_rows" = some (some (.ref gbody_rows)))
    (lbody_rows : K.lookup gbody_rows = some ⟨ocbody_rows, odbody_rows, .func (PySem.W.fnOf "body_rows" "body_rows" (defArgs s_body_rows) (defBody s_body_rows) (defScope s_body_rows) .none kVbody_rows dcbody_rows pmbody_rows anbody_rows cdbody_rows ctbody_rows), slbody_rows⟩)
    (cbody_rows : PySem.W.codeIn K cdbody_rows "body_rows" = true)
    (kbody_rows : PySem.W.keepIn K (.ref gbody_rows) = true)
    (alaw_bag : PySem.W.nsIn K mainGlobals "_law_bag" = some (some (.ref glaw_bag)))
    (llaw_bag : K.lookup glaw_bag = some ⟨oclaw_bag, odlaw_bag, .func (PySem.W.fnOf "_law_bag" "_law_bag" (defArgs s_law_bag) (defBody s_law_bag) (defScope s_law_bag) .none kVlaw_bag dclaw_bag pmlaw_bag anlaw_bag cdlaw_bag ctlaw_bag), sllaw_bag⟩)
    (claw_bag : PySem.W.codeIn K cdlaw_bag "_law_bag" = true)
    (klaw_bag : PySem.W.keepIn K (.ref glaw_bag) = true)
    (alaw_take : PySem.W.nsIn K mainGlobals "_law_take" = some (some (.ref glaw_take)))
    (llaw_take : K.lookup glaw_take = some ⟨oclaw_take, odlaw_take, .func (PySem.W.fnOf "_law_take" "_law_take" (defArgs s_law_take) (defBody s_law_take) (defScope s_law_take) .none kVlaw_take dclaw_take pmlaw_take anlaw_take cdlaw_take ctlaw_take), sllaw_take⟩)
    (claw_take : PySem.W.codeIn K cdlaw_take "_law_take" = true)
    (klaw_take : PySem.W.keepIn K (.ref glaw_take) = true)
    (alaw_name : PySem.W.nsIn K mainGlobals "_law_name" = some (some (.ref glaw_name)))
    (llaw_name : K.lookup glaw_name = some ⟨oclaw_name, odlaw_name, .func (PySem.W.fnOf "_law_name" "_law_name" (defArgs s_law_name) (defBody s_law_name) (defScope s_law_name) .none kVlaw_name dclaw_name pmlaw_name anlaw_name cdlaw_name ctlaw_name), sllaw_name⟩)
    (claw_name : PySem.W.codeIn K cdlaw_name "_law_name" = true)
    (klaw_name : PySem.W.keepIn K (.ref glaw_name) = true)
    (alaw_names : PySem.W.nsIn K mainGlobals "_law_names" = some (some (.ref glaw_names)))
    (llaw_names : K.lookup glaw_names = some ⟨oclaw_names, odlaw_names, .func (PySem.W.fnOf "_law_names" "_law_names" (defArgs s_law_names) (defBody s_law_names) (defScope s_law_names) .none kVlaw_names dclaw_names pmlaw_names anlaw_names cdlaw_names ctlaw_names), sllaw_names⟩)
    (claw_names : PySem.W.codeIn K cdlaw_names "_law_names" = true)
    (klaw_names : PySem.W.keepIn K (.ref glaw_names) = true)
    (alaw_number : PySem.W.nsIn K mainGlobals "_law_number" = some (some (.ref glaw_number)))
    (llaw_number : K.lookup glaw_number = some ⟨oclaw_number, odlaw_number, .func (PySem.W.fnOf "_law_number" "_law_number" (defArgs s_law_number) (defBody s_law_number) (defScope s_law_number) .none kVlaw_number dclaw_number pmlaw_number anlaw_number cdlaw_number ctlaw_number), sllaw_number⟩)
    (claw_number : PySem.W.codeIn K cdlaw_number "_law_number" = true)
    (klaw_number : PySem.W.keepIn K (.ref glaw_number) = true)
    (alaw_answers : PySem.W.nsIn K mainGlobals "_law_answers" = some (some (.ref glaw_answers)))
    (llaw_answers : K.lookup glaw_answers = some ⟨oclaw_answers, odlaw_answers, .func (PySem.W.fnOf "_law_answers" "_law_answers" (defArgs s_law_answers) (defBody s_law_answers) (defScope s_law_answers) .none kVlaw_answers dclaw_answers pmlaw_answers anlaw_answers cdlaw_answers ctlaw_answers), sllaw_answers⟩)
    (claw_answers : PySem.W.codeIn K cdlaw_answers "_law_answers" = true)
    (klaw_answers : PySem.W.keepIn K (.ref glaw_answers) = true)
    (alaw_fields : PySem.W.nsIn K mainGlobals "_law_fields" = some (some (.ref glaw_fields)))
    (llaw_fields : K.lookup glaw_fields = some ⟨oclaw_fields, odlaw_fields, .func (PySem.W.fnOf "_law_fields" "_law_fields" (defArgs s_law_fields) (defBody s_law_fields) (defScope s_law_fields) .none kVlaw_fields dclaw_fields pmlaw_fields anlaw_fields cdlaw_fields ctlaw_fields), sllaw_fields⟩)
    (claw_fields : PySem.W.codeIn K cdlaw_fields "_law_fields" = true)
    (klaw_fields : PySem.W.keepIn K (.ref glaw_fields) = true)
    (alaw_letter : PySem.W.nsIn K mainGlobals "_law_letter" = some (some (.ref glaw_letter)))
    (llaw_letter : K.lookup glaw_letter = some ⟨oclaw_letter, odlaw_letter, .func (PySem.W.fnOf "_law_letter" "_law_letter" (defArgs s_law_letter) (defBody s_law_letter) (defScope s_law_letter) .none kVlaw_letter dclaw_letter pmlaw_letter anlaw_letter cdlaw_letter ctlaw_letter), sllaw_letter⟩)
    (claw_letter : PySem.W.codeIn K cdlaw_letter "_law_letter" = true)
    (klaw_letter : PySem.W.keepIn K (.ref glaw_letter) = true)
    (alaw_bad : PySem.W.nsIn K mainGlobals "_law_bad" = some (some (.ref glaw_bad)))
    (llaw_bad : K.lookup glaw_bad = some ⟨oclaw_bad, odlaw_bad, .func (PySem.W.fnOf "_law_bad" "_law_bad" (defArgs s_law_bad) (defBody s_law_bad) (defScope s_law_bad) .none kVlaw_bad dclaw_bad pmlaw_bad anlaw_bad cdlaw_bad ctlaw_bad), sllaw_bad⟩)
    (claw_bad : PySem.W.codeIn K cdlaw_bad "_law_bad" = true)
    (klaw_bad : PySem.W.keepIn K (.ref glaw_bad) = true)
    (alaw_refused : PySem.W.nsIn K mainGlobals "_law_refused" = some (some (.ref glaw_refused)))
    (llaw_refused : K.lookup glaw_refused = some ⟨oclaw_refused, odlaw_refused, .func (PySem.W.fnOf "_law_refused" "_law_refused" (defArgs s_law_refused) (defBody s_law_refused) (defScope s_law_refused) .none kVlaw_refused dclaw_refused pmlaw_refused anlaw_refused cdlaw_refused ctlaw_refused), sllaw_refused⟩)
    (claw_refused : PySem.W.codeIn K cdlaw_refused "_law_refused" = true)
    (klaw_refused : PySem.W.keepIn K (.ref glaw_refused) = true)
    (alaw_caught : PySem.W.nsIn K mainGlobals "_law_caught" = some (some (.ref glaw_caught)))
    (llaw_caught : K.lookup glaw_caught = some ⟨oclaw_caught, odlaw_caught, .func (PySem.W.fnOf "_law_caught" "_law_caught" (defArgs s_law_caught) (defBody s_law_caught) (defScope s_law_caught) .none kVlaw_caught dclaw_caught pmlaw_caught anlaw_caught cdlaw_caught ctlaw_caught), sllaw_caught⟩)
    (claw_caught : PySem.W.codeIn K cdlaw_caught "_law_caught" = true)
    (klaw_caught : PySem.W.keepIn K (.ref glaw_caught) = true)
    (alaw_are_told : PySem.W.nsIn K mainGlobals "_law_are_told" = some (some (.ref glaw_are_told)))
    (llaw_are_told : K.lookup glaw_are_told = some ⟨oclaw_are_told, odlaw_are_told, .func (PySem.W.fnOf "_law_are_told" "_law_are_told" (defArgs s_law_are_told) (defBody s_law_are_told) (defScope s_law_are_told) .none kVlaw_are_told dclaw_are_told pmlaw_are_told anlaw_are_told cdlaw_are_told ctlaw_are_told), sllaw_are_told⟩)
    (claw_are_told : PySem.W.codeIn K cdlaw_are_told "_law_are_told" = true)
    (klaw_are_told : PySem.W.keepIn K (.ref glaw_are_told) = true)
    (alaw_is_made : PySem.W.nsIn K mainGlobals "_law_is_made" = some (some (.ref glaw_is_made)))
    (llaw_is_made : K.lookup glaw_is_made = some ⟨oclaw_is_made, odlaw_is_made, .func (PySem.W.fnOf "_law_is_made" "_law_is_made" (defArgs s_law_is_made) (defBody s_law_is_made) (defScope s_law_is_made) .none kVlaw_is_made dclaw_is_made pmlaw_is_made anlaw_is_made cdlaw_is_made ctlaw_is_made), sllaw_is_made⟩)
    (claw_is_made : PySem.W.codeIn K cdlaw_is_made "_law_is_made" = true)
    (klaw_is_made : PySem.W.keepIn K (.ref glaw_is_made) = true)
    (alaw : PySem.W.nsIn K mainGlobals "law" = some (some (.ref glaw)))
    (llaw : K.lookup glaw = some ⟨oclaw, odlaw, .func (PySem.W.fnOf "law" "law" (defArgs s_law) (defBody s_law) (defScope s_law) .none kVlaw dclaw pmlaw anlaw cdlaw ctlaw), sllaw⟩)
    (claw : PySem.W.codeIn K cdlaw "law" = true)
    (klaw : PySem.W.keepIn K (.ref glaw) = true)
    (gANSWERS_IN_ROW : PySem.W.nsIn K mainGlobals "ANSWERS_IN_ROW" = some (some (.int 3 tokANSWERS_IN_ROW)))
    (gMOST_NUMBER : PySem.W.nsIn K mainGlobals "MOST_NUMBER" = some (some (.int 1000000000000000000000000000000 tokMOST_NUMBER)))
    (gMOST_SIGNS : PySem.W.nsIn K mainGlobals "MOST_SIGNS" = some (some (.int 8 tokMOST_SIGNS)))
    (gSIGNS : PySem.W.nsIn K mainGlobals "SIGNS" = some (some (.str "abcdefghijklmnopqrstuvwxyz" tokSIGNS)))
    (gSUBJECT_IN_ROW : PySem.W.nsIn K mainGlobals "SUBJECT_IN_ROW" = some (some (.int 4 tokSUBJECT_IN_ROW)))
    (gWORDS_IN_ROW : PySem.W.nsIn K mainGlobals "WORDS_IN_ROW" = some (some (.int 8 tokWORDS_IN_ROW)))
    (pg : PySem.W.plainGet K C Str.empty = true)
    (hd : PySem.W.hasDictIn K C = true)
    (po : PySem.W.plainOver K C = true)
    (sa : PySem.W.findIn K (.ref C) "__setattr__" = some (some (.builtin "object.__setattr__")))
    (mk : PySem.W.makesIn K C = true)
    (kc : PySem.W.keepIn K (.ref C) = true)
    (sf : PySem.W.selfFirst K C = true)
    (nf : PySem.W.notFirst K C (.type "list") = true)
    (ni : PySem.W.notFirst K C (.type "int") = true)
    (ca : PySem.W.findIn K (.ref C) "__class__" = some (some (.builtin "object.__class__")))
    (cn : PySem.W.specialIn K (.builtin "object.__class__") "__get__" = some (some (.builtin "getset_descriptor.__get__")))
    (ct : PySem.W.takesIn K (.builtin "object.__class__") = some true)
    (cm : PySem.W.mroIn K C (.type "object") = some true)
    (ki : PySem.W.isClsIn K C = true)
    (kt : PySem.W.typeIn K (.ref C) = some (.type "type"))
    (ks : PySem.W.subIn K (.type "int") (.ref C) = some false)
    (ne : PySem.W.findIn K (.ref C) "__ne__" = some (some (.builtin "object.__ne__")))
    (so : PySem.W.subIn K (.ref C) (.type "object") = some true)
    (rd : PySem.W.readsIn K C (.type "type") = true)
    (rg : PySem.W.specialIn K (.ref C) "__getattribute__" = some (some (.builtin "type.__getattribute__")))
    (cvA : PySem.W.findCls K (.ref C) (.type "type") "MOST_ANSWERS" = some (.val (.int 8 tkA)))
    (cvS : PySem.W.findCls K (.ref C) (.type "type") "MOST_SUBJECT" = some (.val (.int 8 tkS)))
    (cvW : PySem.W.findCls K (.ref C) (.type "type") "MOST_WORDS" = some (.val (.int 40 tkW)))
    (n_number : PySem.W.findIn K (.ref C) "number" = some none)
    (n_person : PySem.W.findIn K (.ref C) "person" = some none)
    (n_house : PySem.W.findIn K (.ref C) "house" = some none)
    (n_sender : PySem.W.findIn K (.ref C) "sender" = some none)
    (n_answers : PySem.W.findIn K (.ref C) "answers" = some none)
    (n_subject : PySem.W.findIn K (.ref C) "subject" = some none)
    (n_words : PySem.W.findIn K (.ref C) "words" = some none)
    (n_text : PySem.W.findIn K (.ref C) "text" = some none)
    (xB : K.lookup CB = some (excClassObj nmB qB CB NB bsB [.ref CM, .type "ValueError", .type "Exception", .type "BaseException", .type "object"] true snB subB abB colB ddB m0B m1B m2B m3B m5B "ValueError.__new__"))
    (saB : PySem.W.findIn K (.ref CB) "__setattr__" = some (some (.builtin "object.__setattr__")))
    (gaB : PySem.W.findIn K (.ref CB) "__getattribute__" = some (some (.builtin "BaseException.__getattribute__")))
    (ggB : PySem.W.findIn K (.ref CB) "__getattr__" = some none)
    (nB : PySem.W.findIn K (.ref CB) "field" = some none)
    (aB : PySem.W.findIn K (.ref CB) "__init__" = some (some (.ref fI)))
    (tB : PySem.W.typeIn K (.ref fI) = some (.type "function"))
    (lB : K.lookup fI = some ⟨ocB, odB, .func (PySem.W.ksFn "__init__" "BadLetter.__init__" (defArgs s_BL_init) (defBody s_BL_init) (defScope s_BL_init) .none kVB dcB pmB anB (.ref cdaB) ctB ccB), slB⟩)
    (cB : PySem.W.codeIn K (.ref cdaB) "BadLetter.__init__" = true)
    (hB : K.lookup cdaB = some ⟨cclB, cddB, .fields vsB, ccsB⟩)
    (vB : vsB[2]? = some (.str fileB tfB))
    (fB : ((l.prog.main.file : Str) == fileB) = true)
    (eB : K.lookup ccB = some ⟨clB, cldB, .cell (some (.ref CB)), cslB⟩)
    (mB : PySem.W.mroIn K CB (.ref CB) = some true)
    (alB : PySem.W.alongIn K "__init__" [.ref CM, .type "ValueError", .type "Exception", .type "BaseException", .type "object"] = some (some (.builtin "ValueError.__init__")))
    (veB : PySem.W.subIn K (.ref CB) (.type "ValueError") = some true)
    (opB : PySem.W.nsIn K cStatics "thirdparty.any" = some none)
    (toB : (l.prog.main.scope.names.lookup ("super" : Str)).isSome = false)
    (kB : PySem.W.keepIn K (.ref CB) = true)
    (exB : PySem.W.subIn K (.ref CB) (.type "BaseException") = some true)
    (tyB : PySem.W.typeIn K (.ref CB) = some (.type "type"))
    (hdB : PySem.W.hasDictIn K CB = true)
    (isB : PySem.W.isClsIn K CB = true)
    (ssB : PySem.W.subIn K (.ref CB) (.ref CB) = some true)
    (exC : PySem.W.subIn K (.ref CC) (.type "BaseException") = some true)
    (tyC : PySem.W.typeIn K (.ref CC) = some (.type "type"))
    (isCC : PySem.W.isClsIn K CC = true)
    (ssC : PySem.W.subIn K (.ref CB) (.ref CC) = some false)
    (exM : PySem.W.subIn K (.ref CM) (.type "BaseException") = some true)
    (tyM : PySem.W.typeIn K (.ref CM) = some (.type "type"))
    (isM : PySem.W.isClsIn K CM = true)
    (ssM : PySem.W.subIn K (.ref CB) (.ref CM) = some true)
    (zabs : PySem.W.nsIn K mainGlobals "abs" = some none)
    (zall : PySem.W.nsIn K mainGlobals "all" = some none)
    (zany : PySem.W.nsIn K mainGlobals "any" = some none)
    (zbool : PySem.W.nsIn K mainGlobals "bool" = some none)
    (zenumerate : PySem.W.nsIn K mainGlobals "enumerate" = some none)
    (zint : PySem.W.nsIn K mainGlobals "int" = some none)
    (zisinstance : PySem.W.nsIn K mainGlobals "isinstance" = some none)
    (zlen : PySem.W.nsIn K mainGlobals "len" = some none)
    (zlist : PySem.W.nsIn K mainGlobals "list" = some none)
    (zmax : PySem.W.nsIn K mainGlobals "max" = some none)
    (zmin : PySem.W.nsIn K mainGlobals "min" = some none)
    (zrange : PySem.W.nsIn K mainGlobals "range" = some none)
    (zset : PySem.W.nsIn K mainGlobals "set" = some none)
    (zsorted : PySem.W.nsIn K mainGlobals "sorted" = some none)
    (zstr : PySem.W.nsIn K mainGlobals "str" = some none)
    (zsuper : PySem.W.nsIn K mainGlobals "super" = some none)
    (ztuple : PySem.W.nsIn K mainGlobals "tuple" = some none) :
    ∃ fd : FuncData, (∀ (s : Shared) (v : Value), BindsTo s fd ⟨[v], []⟩ [("_law_script", v)]) ∧ ∀ base : Heap, K.In base → base.Ns mainGlobals mg → FnOk l.prog w K mg base CX0 7 fa fd ["_law_script"] (spLaw K) := by
  have e := hfa.symm.trans (PySem.W.mg_of X G alaw)
  cases e
  have cl : Cls K C := ⟨pg, hd, po, sa⟩
  have rdC : ClX.CRead K C (.type "type") := ⟨rd, rg⟩
  have T : Tx (gam K C) mg CB CC CM := ⟨PySem.W.mg_none_of X G zabs, PySem.W.mg_none_of X G zall, PySem.W.mg_none_of X G zany, PySem.W.mg_none_of X G zbool, PySem.W.mg_none_of X G zenumerate, PySem.W.mg_none_of X G zint, PySem.W.mg_none_of X G zisinstance, PySem.W.mg_none_of X G zlen, PySem.W.mg_none_of X G zlist, PySem.W.mg_none_of X G zmax, PySem.W.mg_none_of X G zmin, PySem.W.mg_none_of X G zrange, PySem.W.mg_none_of X G zset, PySem.W.mg_none_of X G zsorted, PySem.W.mg_none_of X G zstr, PySem.W.mg_none_of X G zsuper, PySem.W.mg_none_of X G ztuple, ⟨_, PySem.W.mg_of X G gANSWERS_IN_ROW⟩, ⟨_, PySem.W.mg_of X G gMOST_NUMBER⟩, ⟨_, PySem.W.mg_of X G gMOST_SIGNS⟩, ⟨_, PySem.W.mg_of X G gSIGNS⟩, ⟨_, PySem.W.mg_of X G gSUBJECT_IN_ROW⟩, ⟨_, PySem.W.mg_of X G gWORDS_IN_ROW⟩,
    fun c C' ns hc hn => by
    match c, hc with
    | 0, hc => cases hc; exact ⟨cl, n_number⟩, fun c C' ns hc hn => by
    match c, hc with
    | 0, hc => cases hc; exact ⟨cl, n_person⟩, fun c C' ns hc hn => by
    match c, hc with
    | 0, hc => cases hc; exact ⟨cl, n_house⟩, fun c C' ns hc hn => by
    match c, hc with
    | 0, hc => cases hc; exact ⟨cl, n_sender⟩, fun c C' ns hc hn => by
    match c, hc with
    | 0, hc => cases hc; exact ⟨cl, n_answers⟩, fun c C' ns hc hn => by
    match c, hc with
    | 0, hc => cases hc; exact ⟨cl, n_subject⟩, fun c C' ns hc hn => by
    match c, hc with
    | 0, hc => cases hc; exact ⟨cl, n_words⟩, fun c C' ns hc hn => by
    match c, hc with
    | 0, hc => cases hc; exact ⟨cl, n_text⟩,
    ⟨C, _, _, PySem.W.mg_of X G aC, rdC, cvA⟩, ⟨C, _, _, PySem.W.mg_of X G aC, rdC, cvS⟩, ⟨C, _, _, PySem.W.mg_of X G aC, rdC, cvW⟩, ⟨C, _, rfl, PySem.W.mg_of X G aC, cl, ca, cn, ct, cm, kit_self, kit_not ki kt ks⟩,
    PySem.W.mg_of X G aCC, PySem.W.mg_of X G aCB, PySem.W.mg_of X G aCM, exm_is exC isCC tyC ssC, exm_is exB isB tyB ssB, exm_is exM isM tyM ssM, ⟨gaB, ggB, exB, hdB⟩, nB⟩
  have Finit := fun_mk (st := s_LT_init) linit cinit kinit
  have Feq := fun_mk (st := s_LT_eq) leq ceq keq
  have Fis_name := fun_mk (st := s_is_name) lis_name cis_name kis_name
  have Fis_number := fun_mk (st := s_is_number) lis_number cis_number kis_number
  have Fare_names := fun_mk (st := s_are_names) lare_names care_names kare_names
  have Ffits_answers := fun_mk (st := s_fits_answers) lfits_answers cfits_answers kfits_answers
  have Fwrapped := fun_mk (st := s_wrapped) lwrapped cwrapped kwrapped
  have Fbody_rows := fun_mk (st := s_body_rows) lbody_rows cbody_rows kbody_rows
  have Flaw_bag := fun_mk (st := s_law_bag) llaw_bag claw_bag klaw_bag
  have Flaw_take := fun_mk (st := s_law_take) llaw_take claw_take klaw_take
  have Flaw_name := fun_mk (st := s_law_name) llaw_name claw_name klaw_name
  have Flaw_names := fun_mk (st := s_law_names) llaw_names claw_names klaw_names
  have Flaw_number := fun_mk (st := s_law_number) llaw_number claw_number klaw_number
  have Flaw_answers := fun_mk (st := s_law_answers) llaw_answers claw_answers klaw_answers
  have Flaw_fields := fun_mk (st := s_law_fields) llaw_fields claw_fields klaw_fields
  have Flaw_letter := fun_mk (st := s_law_letter) llaw_letter claw_letter klaw_letter
  have Flaw_bad := fun_mk (st := s_law_bad) llaw_bad claw_bad klaw_bad
  have Flaw_refused := fun_mk (st := s_law_refused) llaw_refused claw_refused klaw_refused
  have Flaw_caught := fun_mk (st := s_law_caught) llaw_caught claw_caught klaw_caught
  have Flaw_are_told := fun_mk (st := s_law_are_told) llaw_are_told claw_are_told klaw_are_told
  have Flaw_is_made := fun_mk (st := s_law_is_made) llaw_is_made claw_is_made klaw_is_made
  have Flaw := fun_mk (st := s_law) llaw claw klaw
  have beq := Feq.binds (ps := ["self", "other"]) fun _ _ _ _ _ _ us hl => match us, hl with | [_, _], _ => rfl
  have bis_name := Fis_name.binds (ps := ["value"]) fun _ _ _ _ _ _ us hl => match us, hl with | [_], _ => rfl
  have bis_number := Fis_number.binds (ps := ["value"]) fun _ _ _ _ _ _ us hl => match us, hl with | [_], _ => rfl
  have bare_names := Fare_names.binds (ps := ["values", "most"]) fun _ _ _ _ _ _ us hl => match us, hl with | [_, _], _ => rfl
  have bfits_answers := Ffits_answers.binds (ps := ["number", "answers"]) fun _ _ _ _ _ _ us hl => match us, hl with | [_, _], _ => rfl
  have bwrapped := Fwrapped.binds (ps := ["lead", "items", "width"]) fun _ _ _ _ _ _ us hl => match us, hl with | [_, _, _], _ => rfl
  have bbody_rows := Fbody_rows.binds (ps := ["words"]) fun _ _ _ _ _ _ us hl => match us, hl with | [_], _ => rfl
  have blaw_bag := Flaw_bag.binds (ps := ["_law_script", "_law_at"]) fun _ _ _ _ _ _ us hl => match us, hl with | [_, _], _ => rfl
  have blaw_take := Flaw_take.binds (ps := ["_law_bag_here", "_law_many"]) fun _ _ _ _ _ _ us hl => match us, hl with | [_, _], _ => rfl
  have blaw_name := Flaw_name.binds (ps := ["_law_bag_here"]) fun _ _ _ _ _ _ us hl => match us, hl with | [_], _ => rfl
  have blaw_names := Flaw_names.binds (ps := ["_law_bag_here", "_law_most"]) fun _ _ _ _ _ _ us hl => match us, hl with | [_, _], _ => rfl
  have blaw_number := Flaw_number.binds (ps := ["_law_bag_here"]) fun _ _ _ _ _ _ us hl => match us, hl with | [_], _ => rfl
  have blaw_answers := Flaw_answers.binds (ps := ["_law_bag_here", "_law_number_here"]) fun _ _ _ _ _ _ us hl => match us, hl with | [_, _], _ => rfl
  have blaw_fields := Flaw_fields.binds (ps := ["_law_bag_here"]) fun _ _ _ _ _ _ us hl => match us, hl with | [_], _ => rfl
  have blaw_letter := Flaw_letter.binds (ps := ["_law_fields_here"]) fun _ _ _ _ _ _ us hl => match us, hl with | [_], _ => rfl
  have blaw_bad := Flaw_bad.binds (ps := ["_law_bag_here", "_law_field", "_law_fields_here"]) fun _ _ _ _ _ _ us hl => match us, hl with | [_, _, _], _ => rfl
  have blaw_refused := Flaw_refused.binds (ps := ["_law_fields_here"]) fun _ _ _ _ _ _ us hl => match us, hl with | [_], _ => rfl
  have blaw_caught := Flaw_caught.binds (ps := ["_law_fields_here"]) fun _ _ _ _ _ _ us hl => match us, hl with | [_], _ => rfl
  have blaw_are_told := Flaw_are_told.binds (ps := ["_law_fields_here"]) fun _ _ _ _ _ _ us hl => match us, hl with | [_], _ => rfl
  have blaw_is_made := Flaw_is_made.binds (ps := ["_law_fields_here"]) fun _ _ _ _ _ _ us hl => match us, hl with | [_], _ => rfl
  have blaw := Flaw.binds (ps := ["_law_script"]) fun _ _ _ _ _ _ us hl => match us, hl with | [_], _ => rfl
  have k3 : KBd (gam K C) K (PySem.W.fnOf "__init__" "Letter.__init__" (defArgs s_LT_init) (defBody s_LT_init) (defScope s_LT_init) .none (.ref kDi) dcinit pminit aninit cdinit ctinit) ["self", "number", "person", "house", "answers", "subject", "words"] ["answers", "subject", "words"] 4 [] := ⟨[], [], .nil, fun _ _ => .nil, fun s us ws _ h1 h2 => match us, ws, h1, h2 with | [_, _, _, _], [_, _, _], _, _ => .of_eq rfl⟩
  have emp : ∀ {t : Addr} {dd : Option Addr} {n : Nat} {sl : Array (Option Value)}, K.lookup t = some ⟨.type "tuple", dd, .seq #[] n, sl⟩ → ∀ M H, Dat (gam K C) M H (.ref t) (.tup []) := fun {t dd n sl} e M H => .tup (.inr fun H' => .inr ⟨_, #[], n, e, rfl, rfl, by decide, .nil⟩) .nil
  have k0 : KBd (gam K C) K (PySem.W.fnOf "__init__" "Letter.__init__" (defArgs s_LT_init) (defBody s_LT_init) (defScope s_LT_init) .none (.ref kDi) dcinit pminit aninit cdinit ctinit) ["self", "number", "person", "house", "answers", "subject", "words"] [] 4 [.tup [], .tup [], .tup []] := ⟨[.ref tA, .ref tS, .ref tW], [.ref tA, .ref tS, .ref tW], .cons rfl (.cons rfl (.cons rfl .nil)), fun M H => .cons (emp tuA M H) (.cons (emp tuS M H) (.cons (emp tuW M H) .nil)), fun s us ws X h1 h2 => match us, ws, h1, h2 with
    | [_, _, _, _], [], _, _ => BindsTo.of_looks fun Mo => KwChain.looks (l := [("answers", .ref tA), ("subject", .ref tS), ("words", .ref tW)]) X (fun q hq => by
      rcases List.mem_cons.mp hq with z | hq
      · rw [z]; exact kwA
      · rcases List.mem_cons.mp hq with z | hq
        · rw [z]; exact kwS
        · rw [List.mem_singleton.mp hq]; exact kwW) ⟨_, _, _, _, _, _, rfl, rfl, ⟨_, _, _, _, _, _, rfl, rfl, ⟨_, _, _, _, _, _, rfl, rfl, rfl⟩⟩⟩⟩
  have k1 : KBd (gam K C) K (PySem.W.fnOf "__init__" "Letter.__init__" (defArgs s_LT_init) (defBody s_LT_init) (defScope s_LT_init) .none (.ref kDi) dcinit pminit aninit cdinit ctinit) ["self", "number", "person", "house", "answers", "subject", "words"] ["words"] 4 [.tup [], .tup []] := ⟨[.ref tA, .ref tS], [.ref tA, .ref tS], .cons rfl (.cons rfl .nil), fun M H => .cons (emp tuA M H) (.cons (emp tuS M H) .nil), fun s us ws X h1 h2 => match us, ws, h1, h2 with
    | [_, _, _, _], [_], _, _ => BindsTo.of_looks fun Mo => KwChain.looks (l := [("answers", .ref tA), ("subject", .ref tS)]) X (fun q hq => by
      rcases List.mem_cons.mp hq with z | hq
      · rw [z]; exact kwA
      · rw [List.mem_singleton.mp hq]; exact kwS) ⟨_, _, _, _, _, _, rfl, rfl, ⟨_, _, _, _, _, _, rfl, rfl, rfl⟩⟩⟩
  refine ⟨PySem.W.fnOf "law" "law" (defArgs s_law) (defBody s_law) (defScope s_law) .none kVlaw dclaw pmlaw anlaw cdlaw ctlaw, fun s v => .of_eq rfl, fun base _ _ => ?_⟩
  · skip
    have C_is_name : Ca (gam K C) l.prog w mg base "is_name" 1 f_is_name 1 := ⟨gis_name, _, _, d_is_name Fis_name T , PySem.W.mg_of X G ais_name, kis_name, bis_name⟩
    have C_is_number : Ca (gam K C) l.prog w mg base "is_number" 1 f_is_number 1 := ⟨gis_number, _, _, d_is_number Fis_number T , PySem.W.mg_of X G ais_number, kis_number, bis_number⟩
    have C_are_names : Ca (gam K C) l.prog w mg base "are_names" 2 f_are_names 2 := ⟨gare_names, _, _, d_are_names Fare_names T C_is_name, PySem.W.mg_of X G aare_names, kare_names, bare_names⟩
    have C_fits_answers : Ca (gam K C) l.prog w mg base "fits_answers" 2 f_fits_answers 2 := ⟨gfits_answers, _, _, d_fits_answers Ffits_answers T C_is_number, PySem.W.mg_of X G afits_answers, kfits_answers, bfits_answers⟩
    have C_wrapped : Ca (gam K C) l.prog w mg base "wrapped" 3 f_wrapped 1 := ⟨gwrapped, _, _, d_wrapped Fwrapped T , PySem.W.mg_of X G awrapped, kwrapped, bwrapped⟩
    have C_body_rows : Ca (gam K C) l.prog w mg base "body_rows" 1 f_body_rows 1 := ⟨gbody_rows, _, _, d_body_rows Fbody_rows T , PySem.W.mg_of X G abody_rows, kbody_rows, bbody_rows⟩
    have cdB : PySem.W.clsIn K CB = some { name := nmB, bases := bsB, mro := .ref CB :: [.ref CM, .type "ValueError", .type "Exception", .type "BaseException", .type "object"], ns := NB, qualname := qB, hasDict := true, slotNames := snB, subclasses := subB, abstract := abB, collection := colB, hasDel := false } := by unfold PySem.W.clsIn; rw [xB] <;> rfl
    have TB : OexC K CB := ⟨⟨nmB, qB, NB, bsB, _, snB, subB, abB, colB, ddB, m0B, m1B, m2B, m3B, m5B, xB, rfl⟩, saB, exB, tyB, kB⟩
    have SB : SupK l.prog K CB fI (PySem.W.ksFn "__init__" "BadLetter.__init__" (defArgs s_BL_init) (defBody s_BL_init) (defScope s_BL_init) .none kVB dcB pmB anB (.ref cdaB) ctB ccB) "BadLetter.__init__" "self" "field" "field" (defBody s_BL_init) (defScope s_BL_init) :=
      ⟨⟨"__init__", defArgs s_BL_init, .none, kVB, dcB, pmB, ctB, ocB, cclB, clB, anB, odB, cddB, cldB, slB, ccsB, cslB, ccB, cdaB, vsB, fileB, tfB, _, _, rfl, lB, cB, hB, vB, fB, eB, cdB, rfl, rfl⟩, TB, mB, by
        unfold PySem.W.ks_superIn
        rw [cdB]
        show PySem.W.alongIn K "__init__" (((Value.ref CB :: [.ref CM, .type "ValueError", .type "Exception", .type "BaseException", .type "object"]).dropWhile (· != .ref CB)).drop 1) = _
        rw [List.dropWhile_cons_of_neg (by simp)]
        exact alB, veB, opB, nB, toB⟩
    have B_bad : BdCa (gam K C) l.prog w mg base "BadLetter" CB "field" okS 1 := ⟨⟨fI, _, _, d_BL_init SB T.n_super, Binds.all fun us hl => match us, hl with | [_, _], _ => rfl, aB, tB⟩, TB, PySem.W.mg_of X G aCB⟩
    have V3 : MkCa (gam K C) l.prog w mg base 0 "Letter" 7 f_LT_init ["answers", "subject", "words"] 4 [] 3 := ⟨C, _, ginit, _, _, rfl, ⟨mk, ainit, iinit, kc⟩, PySem.W.mg_of X G aC, d_LT_init Finit T C_is_number C_is_name C_fits_answers C_are_names C_wrapped C_body_rows, k3⟩
    have V1 : MkCa (gam K C) l.prog w mg base 0 "Letter" 7 f_LT_init ["words"] 4 [.tup [], .tup []] 3 := ⟨C, _, ginit, _, _, rfl, ⟨mk, ainit, iinit, kc⟩, PySem.W.mg_of X G aC, d_LT_init Finit T C_is_number C_is_name C_fits_answers C_are_names C_wrapped C_body_rows, k1⟩
    have V0 : MkCa (gam K C) l.prog w mg base 0 "Letter" 7 f_LT_init [] 4 [.tup [], .tup [], .tup []] 3 := ⟨C, _, ginit, _, _, rfl, ⟨mk, ainit, iinit, kc⟩, PySem.W.mg_of X G aC, d_LT_init Finit T C_is_number C_is_name C_fits_answers C_are_names C_wrapped C_body_rows, k0⟩
    have L3 : MkCa (gam K C) l.prog w mg base 0 "Letter" 7 (lend 4 (lend 6 f_LT_init)) ["answers", "subject", "words"] 4 [] 3 := ⟨C, _, ginit, _, _, rfl, ⟨mk, ainit, iinit, kc⟩, PySem.W.mg_of X G aC, (d_LT_init Finit T C_is_number C_is_name C_fits_answers C_are_names C_wrapped C_body_rows).imp fun _ _ _ _ h => lend_sp (lend_sp h), k3⟩
    have Z3 : MzCa (gam K C) l.prog w mg base 0 "Letter" CB "field" (zf_LT_init (Γ := gam K C)) ["answers", "subject", "words"] 4 [] 3 := ⟨C, _, ginit, _, _, rfl, ⟨mk, ainit, iinit, kc⟩, PySem.W.mg_of X G aC, dz_LT_init Finit T rfl B_bad C_are_names C_fits_answers C_is_name C_is_number, k3⟩
    have O_eq : OCa (gam K C) l.prog w mg base 0 "__eq__" f_LT_eq 1 := ⟨C, _, geq, _, _, rfl, aeq, ieq, sf, nf, d_LT_eq Feq T , beq⟩
    have N_eq : OnCa (gam K C) l.prog w mg base 0 f_LT_eq 1 := ⟨C, _, geq, _, _, rfl, aeq, ieq, ne, so, ni, d_LT_eq Feq T , beq⟩
    have C_law_bag : Ca (gam K C) l.prog w mg base "_law_bag" 2 f_law_bag 1 := ⟨glaw_bag, _, _, d_law_bag Flaw_bag T , PySem.W.mg_of X G alaw_bag, klaw_bag, blaw_bag⟩
    have C_law_take : Ca (gam K C) l.prog w mg base "_law_take" 2 f_law_take 1 := ⟨glaw_take, _, _, d_law_take Flaw_take T , PySem.W.mg_of X G alaw_take, klaw_take, blaw_take⟩
    have C_law_name : Ca (gam K C) l.prog w mg base "_law_name" 1 f_law_name 2 := ⟨glaw_name, _, _, d_law_name Flaw_name T C_law_take, PySem.W.mg_of X G alaw_name, klaw_name, blaw_name⟩
    have C_law_names : Ca (gam K C) l.prog w mg base "_law_names" 2 f_law_names 3 := ⟨glaw_names, _, _, d_law_names Flaw_names T C_law_take C_law_name, PySem.W.mg_of X G alaw_names, klaw_names, blaw_names⟩
    have C_law_number : Ca (gam K C) l.prog w mg base "_law_number" 1 f_law_number 2 := ⟨glaw_number, _, _, d_law_number Flaw_number T C_law_take, PySem.W.mg_of X G alaw_number, klaw_number, blaw_number⟩
    have C_law_answers : Ca (gam K C) l.prog w mg base "_law_answers" 2 f_law_answers 2 := ⟨glaw_answers, _, _, d_law_answers Flaw_answers T C_law_take, PySem.W.mg_of X G alaw_answers, klaw_answers, blaw_answers⟩
    have C_law_fields : Ca (gam K C) l.prog w mg base "_law_fields" 1 f_law_fields 4 := ⟨glaw_fields, _, _, d_law_fields Flaw_fields T C_law_number C_law_take C_law_name C_law_answers C_law_names, PySem.W.mg_of X G alaw_fields, klaw_fields, blaw_fields⟩
    have C_law_letter : Ca (gam K C) l.prog w mg base "_law_letter" 1 f_law_letter 5 := ⟨glaw_letter, _, _, d_law_letter Flaw_letter T V3, PySem.W.mg_of X G alaw_letter, klaw_letter, blaw_letter⟩
    have C_law_bad : Ca (gam K C) l.prog w mg base "_law_bad" 3 f_law_bad 2 := ⟨glaw_bad, _, _, d_law_bad Flaw_bad T C_law_take, PySem.W.mg_of X G alaw_bad, klaw_bad, blaw_bad⟩
    have C_law_refused : Ca (gam K C) l.prog w mg base "_law_refused" 1 f_law_refused 5 := ⟨glaw_refused, _, _, d_law_refused Flaw_refused T V3 Z3, PySem.W.mg_of X G alaw_refused, klaw_refused, blaw_refused⟩
    have C_law_caught : Ca (gam K C) l.prog w mg base "_law_caught" 1 f_law_caught 5 := ⟨glaw_caught, _, _, d_law_caught Flaw_caught T V3 Z3, PySem.W.mg_of X G alaw_caught, klaw_caught, blaw_caught⟩
    have C_law_are_told : Ca (gam K C) l.prog w mg base "_law_are_told" 1 f_law_are_told 2 := ⟨glaw_are_told, _, _, d_law_are_told Flaw_are_told T C_is_number C_is_name, PySem.W.mg_of X G alaw_are_told, klaw_are_told, blaw_are_told⟩
    have C_law_is_made : Ca (gam K C) l.prog w mg base "_law_is_made" 1 f_law_is_made 6 := ⟨glaw_is_made, _, _, d_law_is_made Flaw_is_made T L3 N_eq C_law_letter O_eq, PySem.W.mg_of X G alaw_is_made, klaw_is_made, blaw_is_made⟩
    exact (d_law Flaw T V0 V1 N_eq C_law_bag C_law_fields C_law_is_made C_law_take C_law_letter O_eq C_law_bad C_law_caught C_law_refused C_law_are_told).imp fun vs H Q E h => spLaw_sp hL h
theorem walk {l : PySem.W.OpenLaw} {q : Program} {loose : List Str} {XP : (Str → Option Value) → Heap → Prop} {YP : World → Heap → Prop} {d : DefRec} {K : Params → PySem.W.Frag} (hn : l.most = some 63) (hdf : d.params.defaults = [])
    (hY : ∀ (w : World) (h : Heap), YP w h → (K w.params).In h)
    (F : ∀ (w : World) (mg : Str → Option Value) (fa : Addr) (h : Heap), (K w.params).In h → h.Ns mainGlobals mg → mg d.name = some (.ref fa) →
      ∃ fd : FuncData, (∀ (s : Shared) (u : Value), BindsTo s fd ⟨[u], []⟩ [("_law_script", u)]) ∧ ∀ base : Heap, (K w.params).In base → base.Ns mainGlobals mg → FnOk l.prog w (K w.params) mg base CX0 7 fa fd ["_law_script"] (spLaw (K w.params))) :
    PySem.W.WalkO q loose XP YP l.row.toRowW d [] (fun f vs => PySem.call f vs) :=
  L2.walk_of (n := 63) (k := 7) (x := "_law_script") (CX := fun _ => CX0) (sp := fun w => spLaw (K w.params)) hn (by decide) hdf ⟨rfl, by decide, by decide⟩ hY F (fun _ _ a ns hl _ hS => ⟨a, ns, rfl, hS, hl, fun _ => rfl⟩) fun _ _ _ _ _ z => z
end K
open PySem PySem.W PyProof.Rows
set_option maxRecDepth 100000 in
set_option maxHeartbeats 0 in
theorem PySem.Challenge.cw_filedalike_k00_letters_made_and_refused_holds : PySem.Challenge.rw_filedalike_k00_letters_made_and_refused.Holds := by
  w_on; o_law; k_head; (case hw => w_witness2)
  k_fill
  refine K.walk (l := PySem.Challenge.rw_filedalike_k00_letters_made_and_refused) rfl rfl (fun w h Y => PySem.W.kIn_of Y) ?F
  case F =>
    intro w mg fa h KX G hmg
    refine' K.all_mk K.law_true KX G hmg ?aC ?aCB ?aCC ?aCM ?ainit ?iinit ?linit ?cinit ?kinit ?aeq ?ieq ?leq ?ceq ?keq ?kwA ?tuA ?kwS ?tuS ?kwW ?tuW ?ais_name ?lis_name ?cis_name ?kis_name ?ais_number ?lis_number ?cis_number ?kis_number ?aare_names ?lare_names ?care_names ?kare_names ?afits_answers ?lfits_answers ?cfits_answers ?kfits_answers ?awrapped ?lwrapped ?cwrapped ?kwrapped ?abody_rows ?lbody_rows ?cbody_rows ?kbody_rows ?alaw_bag ?llaw_bag ?claw_bag ?klaw_bag ?alaw_take ?llaw_take ?claw_take ?klaw_take ?alaw_name ?llaw_name ?claw_name ?klaw_name ?alaw_names ?llaw_names ?claw_names ?klaw_names ?alaw_number ?llaw_number ?claw_number ?klaw_number ?alaw_answers ?llaw_answers ?claw_answers ?klaw_answers ?alaw_fields ?llaw_fields ?claw_fields ?klaw_fields ?alaw_letter ?llaw_letter ?claw_letter ?klaw_letter ?alaw_bad ?llaw_bad ?claw_bad ?klaw_bad ?alaw_refused ?llaw_refused ?claw_refused ?klaw_refused ?alaw_caught ?llaw_caught ?claw_caught ?klaw_caught ?alaw_are_told ?llaw_are_told ?claw_are_told ?klaw_are_told ?alaw_is_made ?llaw_is_made ?claw_is_made ?klaw_is_made ?alaw ?llaw ?claw ?klaw ?gANSWERS_IN_ROW ?gMOST_NUMBER ?gMOST_SIGNS ?gSIGNS ?gSUBJECT_IN_ROW ?gWORDS_IN_ROW ?pg ?hd ?po ?sa ?mk ?kc ?sf ?nf ?ni ?ca ?cn ?ct ?cm ?ki ?kt ?ks ?ne ?so ?rd ?rg ?cvA ?cvS ?cvW ?n_number ?n_person ?n_house ?n_sender ?n_answers ?n_subject ?n_words ?n_text ?xB ?saB ?gaB ?ggB ?nB ?aB ?tB ?lB ?cB ?hB ?vB ?fB ?eB ?mB ?alB ?veB ?opB ?toB ?kB ?exB ?tyB ?hdB ?isB ?ssB ?exC ?tyC ?isCC ?ssC ?exM ?tyM ?isM ?ssM ?zabs ?zall ?zany ?zbool ?zenumerate ?zint ?zisinstance ?zlen ?zlist ?zmax ?zmin ?zrange ?zset ?zsorted ?zstr ?zsuper ?ztuple
    (case aC => k_is); (case aCB => k_is); (case aCC => k_is); (case aCM => k_is); (case ainit => k_is); (case iinit => k_is)
    (case linit => k_is); (case cinit => k_is); (case kinit => k_is); (case aeq => k_is); (case ieq => k_is); (case leq => k_is)
    (case ceq => k_is); (case keq => k_is); (case kwA => k_is); (case tuA => k_is); (case kwS => k_is); (case tuS => k_is)
    (case kwW => k_is); (case tuW => k_is); (case ais_name => k_is); (case lis_name => k_is); (case cis_name => k_is); (case kis_name => k_is)
    (case ais_number => k_is); (case lis_number => k_is); (case cis_number => k_is); (case kis_number => k_is); (case aare_names => k_is); (case lare_names => k_is)
    (case care_names => k_is); (case kare_names => k_is); (case afits_answers => k_is); (case lfits_answers => k_is); (case cfits_answers => k_is); (case kfits_answers => k_is)
    (case awrapped => k_is); (case lwrapped => k_is); (case cwrapped => k_is); (case kwrapped => k_is); (case abody_rows => k_is); (case lbody_rows => k_is)
    (case cbody_rows => k_is); (case kbody_rows => k_is); (case alaw_bag => k_is); (case llaw_bag => k_is); (case claw_bag => k_is); (case klaw_bag => k_is)
    (case alaw_take => k_is); (case llaw_take => k_is); (case claw_take => k_is); (case klaw_take => k_is); (case alaw_name => k_is); (case llaw_name => k_is)
    (case claw_name => k_is); (case klaw_name => k_is); (case alaw_names => k_is); (case llaw_names => k_is); (case claw_names => k_is); (case klaw_names => k_is)
    (case alaw_number => k_is); (case llaw_number => k_is); (case claw_number => k_is); (case klaw_number => k_is); (case alaw_answers => k_is); (case llaw_answers => k_is)
    (case claw_answers => k_is); (case klaw_answers => k_is); (case alaw_fields => k_is); (case llaw_fields => k_is); (case claw_fields => k_is); (case klaw_fields => k_is)
    (case alaw_letter => k_is); (case llaw_letter => k_is); (case claw_letter => k_is); (case klaw_letter => k_is); (case alaw_bad => k_is); (case llaw_bad => k_is)
    (case claw_bad => k_is); (case klaw_bad => k_is); (case alaw_refused => k_is); (case llaw_refused => k_is); (case claw_refused => k_is); (case klaw_refused => k_is)
    (case alaw_caught => k_is); (case llaw_caught => k_is); (case claw_caught => k_is); (case klaw_caught => k_is); (case alaw_are_told => k_is); (case llaw_are_told => k_is)
    (case claw_are_told => k_is); (case klaw_are_told => k_is); (case alaw_is_made => k_is); (case llaw_is_made => k_is); (case claw_is_made => k_is); (case klaw_is_made => k_is)
    (case alaw => k_is); (case llaw => k_is); (case claw => k_is); (case klaw => k_is); (case gANSWERS_IN_ROW => k_is); (case gMOST_NUMBER => k_is)
    (case gMOST_SIGNS => k_is); (case gSIGNS => k_is); (case gSUBJECT_IN_ROW => k_is); (case gWORDS_IN_ROW => k_is); (case pg => k_is); (case hd => k_is)
    (case po => k_is); (case sa => k_is); (case mk => k_is); (case kc => k_is); (case sf => k_is); (case nf => k_is)
    (case ni => k_is); (case ca => k_is); (case cn => k_is); (case ct => k_is); (case cm => k_is); (case ki => k_is)
    (case kt => k_is); (case ks => k_is); (case ne => k_is); (case so => k_is); (case rd => k_is); (case rg => k_is)
    (case cvA => k_is); (case cvS => k_is); (case cvW => k_is); (case n_number => k_is); (case n_person => k_is); (case n_house => k_is)
    (case n_sender => k_is); (case n_answers => k_is); (case n_subject => k_is); (case n_words => k_is); (case n_text => k_is); (case xB => k_is)
    (case saB => k_is); (case gaB => k_is); (case ggB => k_is); (case nB => k_is); (case aB => k_is); (case tB => k_is)
    (case lB => k_is); (case cB => k_is); (case hB => k_is); (case vB => rfl); (case fB => first | rfl | decide +kernel); (case eB => k_is)
    (case mB => k_is); (case alB => first | k_is | rfl | decide +kernel); (case veB => k_is); (case opB => k_is); (case toB => first | rfl | decide +kernel); (case kB => k_is)
    (case exB => k_is); (case tyB => k_is); (case hdB => k_is); (case isB => k_is); (case ssB => first | rfl | k_is); (case exC => k_is)
    (case tyC => k_is); (case isCC => k_is); (case ssC => k_is); (case exM => k_is); (case tyM => k_is); (case isM => k_is)
    (case ssM => k_is); (case zabs => k_is); (case zall => k_is); (case zany => k_is); (case zbool => k_is); (case zenumerate => k_is)
    (case zint => k_is); (case zisinstance => k_is); (case zlen => k_is); (case zlist => k_is); (case zmax => k_is); (case zmin => k_is)
    (case zrange => k_is); (case zset => k_is); (case zsorted => k_is); (case zstr => k_is); (case zsuper => k_is); (case ztuple => k_is)


