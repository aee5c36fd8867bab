import PyProof.Rows.All
import Wide.All
import OpenK.AllK
import Wide.FinOn
import HandS.ForMost
import HandS.Flow
import HandS.Style
import HandS.Deep
import HandS.IsInst
import HandS.TupAny
import HandS.Wide
import HandS.SortInts
import HandS.Conv
import HandS.Star
import HandS.SlotsOwn
import HandS.TupLe
import KE.KExcSuper
import HandS.ExcInit
import HandS.FStr
import HandS.MakeKwOnly
import HandS.ExcOwn
import HandS.TryOnly
import HandS.ExcField
import HandS.ClsMeth
import HandS.Zip
import HandS.SetFor
import PyProof.InstNe
import KE.KCallOwn
import HandS.CallSlots
import KE.SortData
import HandS.Strs
import HandS.SortKw
import KE.DataMinMax
import KE.GoesMore
import HandS.OwnIter
import HandS.IterNext
import HandS.SetKeys
import KE.KEqDict
import PyProof.NeKinds
import HandS.ExcIs
import PyProof.DictMoreH
import KE.KSuper
import KE.KUnpackStar
import HandS.RaiseMore
import HandS.More
import PyProof.TupleOfSeq
import HandS.SetBool
import HandS.IterVal
import HandS.WordsDict
import HandS.DictEq
import HandS.OwnEq
import HandS.Remove
import PyProof.DictUpdate
import HandS.StrMore
import HandS.Small
import HandS.DictComp
import PyProof.ListStr
import PyProof.RulesMatch
import KE.KOpsOwn
import HandS.ReplaceLit
import HandS.Property
import KE.KDictWalk
import KE.KDictCopyH
import KE.GoesEnum
import HandS.GenList
import KE.SortKeyHeap
import KE.SortUse
import PySem.Challenge.RW_filedalike_k32_families_of_sets
import HandS.Codes
import HandS.Defaults
set_option Elab.async false
set_option linter.all false
set_option maxRecDepth 100000
set_option maxHeartbeats 4000000
set_option maxHeartbeats 4000000
namespace G
open PySem L2

inductive D where
  | non | bl (b : Bool) | int (i : Int) | str (s : Str) | tup (xs : List D) | lst (xs : List D) | ins (c : Nat) (fs : List D) | odd | dic (ks : List Key) (ds : List D) | cls (c : Nat) | val (v : V) (d : D) | raw (a : Addr)

structure Gam where
  K : PySem.W.Frag
  cls : Nat → Option (Addr × List Str)
/-- a thing in the heap of a graph: what it holds is data; other things are told by their addresses (raw) -/
inductive Cell where
  | lst (ds : List D) | dic (kvs : List (Key × D)) | ins (c : Nat) (fs : List (Str × D))
abbrev Gr := Addr → Option Cell
/-- further things that a slot may hold: a dict by tuples, a tuple that is such a key, a graph of things by addresses, a tuple of two dicts -/
inductive ObT where
  | tbl (kvs : List (List Key × D)) | key (ks : List Key) | gra (root : Addr) (g : Gr) | prd (ka kb : List (Key × D))
abbrev Gam.Ob (_ : Gam) : Type := ObT

/-- a tuple (a list) to be read that nobody may change -/
def TupM (K : PySem.W.Frag) (M : Addr → Prop) (H : Hp) (a : Addr) (vs : List V) : Prop :=
  (¬ M a ∧ Rd H a (.tup vs)) ∨ ((∀ H', SqT K H' a vs))
def LstM (K : PySem.W.Frag) (M : Addr → Prop) (H : Hp) (a : Addr) (vs : List V) : Prop :=
  (¬ M a ∧ Rd H a (.lst vs)) ∨ ((∀ H', SqL K H' a vs))
theorem TupM.sq {K : PySem.W.Frag} {M : Addr → Prop} {H : Hp} {a : Addr} {vs : List V} (h : TupM K M H a vs) : SqT K H a vs := by
  rcases h with h | h
  · exact .inl h.2
  · exact h H
theorem LstM.sq {K : PySem.W.Frag} {M : Addr → Prop} {H : Hp} {a : Addr} {vs : List V} (h : LstM K M H a vs) : SqL K H a vs := by
  rcases h with h | h
  · exact .inl h.2
  · exact h H
/-- H' tells all that H tells of what is not in M; what was there and not in M is not in M' -/
structure Go (M : Addr → Prop) (H : Hp) (M' : Addr → Prop) (H' : Hp) : Prop where
  keep : ∀ a u, ¬ M a → H a = some u → H' a = some u
  stay : ∀ a, ¬ M a → H a ≠ none → ¬ M' a
theorem TupM.go {K : PySem.W.Frag} {M M' : Addr → Prop} {H H' : Hp} {a : Addr} {vs : List V} (h : TupM K M H a vs) (g : Go M H M' H') : TupM K M' H' a vs := by
  rcases h with ⟨n, h⟩ | h
  · refine .inl ?_
    rcases h with h | ⟨o, h⟩
    · exact ⟨g.stay a n (by rw [h]; simp), .inl (g.keep a _ n h)⟩
    · exact ⟨g.stay a n (by rw [h]; simp), .inr ⟨o, g.keep a _ n h⟩⟩
  · exact .inr h
theorem LstM.go {K : PySem.W.Frag} {M M' : Addr → Prop} {H H' : Hp} {a : Addr} {vs : List V} (h : LstM K M H a vs) (g : Go M H M' H') : LstM K M' H' a vs := by
  rcases h with ⟨n, h⟩ | h
  · refine .inl ?_
    rcases h with h | ⟨o, h⟩
    · exact ⟨g.stay a n (by rw [h]; simp), .inl (g.keep a _ n h)⟩
    · exact ⟨g.stay a n (by rw [h]; simp), .inr ⟨o, g.keep a _ n h⟩⟩
  · exact .inr h

mutual
/-- the value v bears the data d, which nobody will change -/
inductive Dat (Γ : Gam) (M : Addr → Prop) (H : Hp) : V → D → Prop
  | non : Dat Γ M H .non .non
  | bl (b : Bool) : Dat Γ M H (.bl b) (.bl b)
  | int (i : Int) : Dat Γ M H (.int i) (.int i)
  | str (x : Str) : Dat Γ M H (.str x) (.str x)
  | tup {a : Addr} {vs : List V} {ds : List D} : TupM Γ.K M H a vs → Dats Γ M H vs ds → Dat Γ M H (.ref a) (.tup ds)
  | lst {a : Addr} {vs : List V} {ds : List D} : ¬ M a → H a = some (.lst vs) → Dats Γ M H vs ds → Dat Γ M H (.ref a) (.lst ds)
  | ins {a C dx : Addr} {c : Nat} {ns : List Str} {vs : List V} {ds : List D} : Γ.cls c = some (C, ns) → ¬ M a → H a = some (.ins C dx (ns.zip vs)) → ns.length = vs.length → Dats Γ M H vs ds → Dat Γ M H (.ref a) (.ins c ds)
  | odd {a : Addr} {vs : List (Key × V)} : ¬ M a → H a = some (.dK vs) → Dat Γ M H (.ref a) .odd
  | dic {a : Addr} {o : Obj} {ks : List Key} {vs : List V} {ds : List D} : ¬ M a → H a = some (.frz o (.dK (ks.zip vs))) → ks.length = vs.length → Dats Γ M H vs ds → Dat Γ M H (.ref a) (.dic ks ds)
  | cls {C : Addr} {c : Nat} {ns : List Str} : Γ.cls c = some (C, ns) → Dat Γ M H (.ref C) (.cls c)
  | val {v : V} {d : D} : Dat Γ M H v d → Dat Γ M H v (.val v d)
  | raw (a : Addr) : Dat Γ M H (.ref a) (.raw a)
inductive Dats (Γ : Gam) (M : Addr → Prop) (H : Hp) : List V → List D → Prop
  | nil : Dats Γ M H [] []
  | cons {v : V} {vs : List V} {d : D} {ds : List D} : Dat Γ M H v d → Dats Γ M H vs ds → Dats Γ M H (v :: vs) (d :: ds)
end

mutual
theorem Dat.go {Γ : Gam} {M M' : Addr → Prop} {H H' : Hp} (g : Go M H M' H') : ∀ {v : V} {d : D}, Dat Γ M H v d → Dat Γ M' H' v d
  | _, _, .non => .non
  | _, _, .bl b => .bl b
  | _, _, .int i => .int i
  | _, _, .str x => .str x
  | _, _, .tup h r => .tup (h.go g) (Dats.go g r)
  | _, _, .lst n h r => .lst (g.stay _ n (by rw [h]; simp)) (g.keep _ _ n h) (Dats.go g r)
  | _, _, .ins e n h l r => .ins e (g.stay _ n (by rw [h]; simp)) (g.keep _ _ n h) l (Dats.go g r)
  | _, _, .odd n h => .odd (g.stay _ n (by rw [h]; simp)) (g.keep _ _ n h)
  | _, _, .dic n h l r => .dic (g.stay _ n (by rw [h]; simp)) (g.keep _ _ n h) l (Dats.go g r)
  | _, _, .cls e => .cls e
  | _, _, .val h => .val (Dat.go g h)
  | _, _, .raw a => .raw a
theorem Dats.go {Γ : Gam} {M M' : Addr → Prop} {H H' : Hp} (g : Go M H M' H') : ∀ {vs : List V} {ds : List D}, Dats Γ M H vs ds → Dats Γ M' H' vs ds
  | _, _, .nil => .nil
  | _, _, .cons h r => .cons (Dat.go g h) (Dats.go g r)
end
section
variable {Γ : Gam} {M : Addr → Prop} {H : Hp}
theorem Dats.length : ∀ {vs : List V} {ds : List D}, Dats Γ M H vs ds → vs.length = ds.length
  | _, _, .nil => rfl
  | _, _, .cons _ r => by rw [List.length_cons, List.length_cons, Dats.length r]
theorem Dats.append : ∀ {vs ws : List V} {ds es : List D}, Dats Γ M H vs ds → Dats Γ M H ws es → Dats Γ M H (vs ++ ws) (ds ++ es)
  | _, _, _, _, .nil, s => s
  | _, _, _, _, .cons h r, s => .cons h (Dats.append r s)
theorem Dats.get : ∀ {vs : List V} {ds : List D} {i : Nat} {d : D}, Dats Γ M H vs ds → ds[i]? = some d → ∃ v, vs[i]? = some v ∧ Dat Γ M H v d
  | _, _, _, _, .nil, e => by simp at e
  | _, _, 0, _, .cons h _, e => by simp at e; subst e; exact ⟨_, rfl, h⟩
  | _, _, i + 1, d, .cons _ r, e => by
    obtain ⟨v, h1, h2⟩ := Dats.get (i := i) (d := d) r (by simpa using e)
    exact ⟨v, by simpa using h1, h2⟩
theorem Dats.take : ∀ {vs : List V} {ds : List D} (n : Nat), Dats Γ M H vs ds → Dats Γ M H (vs.take n) (ds.take n)
  | _, _, 0, _ => .nil
  | _, _, _ + 1, .nil => .nil
  | _, _, n + 1, .cons h r => .cons h (Dats.take n r)
theorem Dats.drop : ∀ {vs : List V} {ds : List D} (n : Nat), Dats Γ M H vs ds → Dats Γ M H (vs.drop n) (ds.drop n)
  | _, _, 0, r => r
  | _, _, _ + 1, .nil => .nil
  | _, _, n + 1, .cons _ r => Dats.drop n r
theorem Dats.set {v : V} {d : D} (h : Dat Γ M H v d) : ∀ {vs : List V} {ds : List D} (i : Nat), Dats Γ M H vs ds → Dats Γ M H (vs.set i v) (ds.set i d)
  | _, _, _, .nil => .nil
  | _, _, 0, .cons _ r => .cons h r
  | _, _, i + 1, .cons q r => .cons q (Dats.set h i r)
theorem Dats.eraseIdx : ∀ {vs : List V} {ds : List D} (i : Nat), Dats Γ M H vs ds → Dats Γ M H (vs.eraseIdx i) (ds.eraseIdx i)
  | _, _, _, .nil => .nil
  | _, _, 0, .cons _ r => r
  | _, _, i + 1, .cons q r => .cons q (Dats.eraseIdx i r)
theorem Dats.reverse {vs : List V} {ds : List D} (h : Dats Γ M H vs ds) : Dats Γ M H vs.reverse ds.reverse := by
  have go : ∀ {vs ws : List V} {ds es : List D}, Dats Γ M H vs ds → Dats Γ M H ws es → Dats Γ M H (vs.reverseAux ws) (ds.reverseAux es) := by
    intro vs
    induction vs with
    | nil => intro ws ds es h1 h2; cases h1; exact h2
    | cons v vs ih => intro ws ds es h1 h2; cases h1 with | cons a b => exact ih (es := _ :: _) b (.cons a h2)
  exact go h .nil
end

/-- what an attribute of an owned instance holds -/
inductive Fd where
  | dat (d : D) | lst (ds : List D) | dic (kvs : List (Key × D))
/-- what a slot of a frame holds: nothing, data, the script, or a thing that this frame alone may change -/
inductive Sl (Γ : Gam) where
  | none | dat (d : D) | scr (ns : List Int) | lst (ds : List D) | dic (kvs : List (Key × D)) | ins (c : Nat) (fs : List (Str × Fd)) | obj (o : Γ.Ob)

inductive KDats (Γ : Gam) (M : Addr → Prop) (H : Hp) : List (Key × V) → List (Key × D) → Prop
  | nil : KDats Γ M H [] []
  | cons {k : Key} {v : V} {vs : List (Key × V)} {d : D} {ds : List (Key × D)} : Dat Γ M H v d → KDats Γ M H vs ds → KDats Γ M H ((k, v) :: vs) ((k, d) :: ds)
theorem KDats.go {Γ : Gam} {M M' : Addr → Prop} {H H' : Hp} (g : Go M H M' H') : ∀ {vs : List (Key × V)} {ds : List (Key × D)}, KDats Γ M H vs ds → KDats Γ M' H' vs ds
  | _, _, .nil => .nil
  | _, _, .cons h r => .cons (h.go g) (KDats.go g r)

inductive TDats (Γ : Gam) (M : Addr → Prop) (H : Hp) : List (List Key × V) → List (List Key × D) → Prop
  | nil : TDats Γ M H [] []
  | cons {k : List Key} {v : V} {vs : List (List Key × V)} {d : D} {ds : List (List Key × D)} : Dat Γ M H v d → TDats Γ M H vs ds → TDats Γ M H ((k, v) :: vs) ((k, d) :: ds)
theorem TDats.go {Γ : Gam} {M M' : Addr → Prop} {H H' : Hp} (g : Go M H M' H') : ∀ {vs : List (List Key × V)} {ds : List (List Key × D)}, TDats Γ M H vs ds → TDats Γ M' H' vs ds
  | _, _, .nil => .nil
  | _, _, .cons h r => .cons (h.go g) (TDats.go g r)
/-- the thing at a bears the cell -/
def CellR (Γ : Gam) (M : Addr → Prop) (H : Hp) (a : Addr) : Cell → Prop
  | .lst ds => ∃ vs, H a = some (.lst vs) ∧ Dats Γ M H vs ds
  | .dic kvs => ∃ vs, H a = some (.dK vs) ∧ KDats Γ M H vs kvs
  | .ins c fs => ∃ C ns dx vs, Γ.cls c = some (C, ns) ∧ H a = some (.ins C dx vs) ∧ vs.map (·.1) = fs.map (·.1) ∧ Dats Γ M H (vs.map (·.2)) (fs.map (·.2))
theorem CellR.go {Γ : Gam} {M M' : Addr → Prop} {H H' : Hp} {a : Addr} {c : Cell} (h : CellR Γ M H a c) (g : Go M H M' H') (k : ∀ u, H a = some u → H' a = some u) : CellR Γ M' H' a c := by
  cases c with
  | lst ds => obtain ⟨vs, e, r⟩ := h; exact ⟨vs, k _ e, r.go g⟩
  | dic kvs => obtain ⟨vs, e, r⟩ := h; exact ⟨vs, k _ e, r.go g⟩
  | ins c fs => obtain ⟨C, ns, dx, vs, e1, e2, e3, r⟩ := h; exact ⟨C, ns, dx, vs, e1, k _ e2, e3, r.go g⟩
def Gam.orep (Γ : Gam) (M : Addr → Prop) (H : Hp) (v : V) (o : ObT) (Fr : Addr → Prop) : Prop :=
  match o with
  | .tbl kvs => ∃ p vs, v = .ref p ∧ H p = some (.dT vs) ∧ TDats Γ M H vs kvs ∧ ∀ a, Fr a ↔ a = p
  | .key ks => ∃ b, v = .ref b ∧ ¬ M b ∧ H b = some (.tup (ks.map kV)) ∧ ∀ a, ¬ Fr a
  | .gra root g => v = .ref root ∧ (∀ b c, g b = some c → CellR Γ M H b c) ∧ ∀ a, Fr a ↔ g a ≠ none
  | .prd ka kb => ∃ t p q us vs, v = .ref t ∧ ¬ M t ∧ H t = some (.tup [.ref p, .ref q]) ∧ p ≠ q ∧ H p = some (.dK us) ∧ KDats Γ M H us ka ∧ H q = some (.dK vs) ∧ KDats Γ M H vs kb ∧ ∀ a, Fr a ↔ a = p ∨ a = q
theorem Gam.omono (Γ : Gam) (M : Addr → Prop) (H : Hp) (M' : Addr → Prop) (H' : Hp) (v : V) (o : ObT) (Fr : Addr → Prop) (h : Γ.orep M H v o Fr) (k : ∀ a u, ¬ M a ∨ Fr a → H a = some u → H' a = some u) (n : ∀ a, ¬ M a → H a ≠ none → ¬ M' a) : Γ.orep M' H' v o Fr := by
  cases o with
  | tbl kvs =>
    obtain ⟨p, vs, e, hp, r, f⟩ := h
    exact ⟨p, vs, e, k p _ (.inr ((f p).mpr rfl)) hp, r.go ⟨fun a u m e => k a u (.inl m) e, n⟩, f⟩
  | key ks =>
    obtain ⟨b, e, m, hb, f⟩ := h
    exact ⟨b, e, n b m (by rw [hb]; simp), k b _ (.inl m) hb, f⟩
  | gra root g =>
    obtain ⟨e, h, f⟩ := h
    exact ⟨e, fun b c q => (h b c q).go ⟨fun a u m e => k a u (.inl m) e, n⟩ fun u => k b u (.inr ((f b).mpr (by rw [q]; exact nofun))), f⟩
  | prd ka kb =>
    obtain ⟨t, p, q, us, vs, e, m, ht, ne, hp, r, hq, s, f⟩ := h
    have g : Go M H M' H' := ⟨fun a u m e => k a u (.inl m) e, n⟩
    exact ⟨t, p, q, us, vs, e, n t m (by rw [ht]; simp), k t _ (.inl m) ht, ne, k p _ (.inr ((f p).mpr (.inl rfl))) hp, r.go g, k q _ (.inr ((f q).mpr (.inr rfl))) hq, s.go g, f⟩

/-- the value v bears what an attribute holds; G: the addresses that it owns -/
def FdR (Γ : Gam) (M : Addr → Prop) (H : Hp) (v : V) (x : Fd) (G : Addr → Prop) : Prop :=
  match x with
  | .dat d => Dat Γ M H v d ∧ ∀ a, ¬ G a
  | .lst ds => ∃ p vs, v = .ref p ∧ H p = some (.lst vs) ∧ Dats Γ M H vs ds ∧ ∀ a, G a ↔ a = p
  | .dic kvs => ∃ p vs, v = .ref p ∧ H p = some (.dK vs) ∧ KDats Γ M H vs kvs ∧ ∀ a, G a ↔ a = p
theorem FdR.go {Γ : Gam} {M M' : Addr → Prop} {H H' : Hp} {v : V} {x : Fd} {G : Addr → Prop} (h : FdR Γ M H v x G) (g : Go M H M' H') (k : ∀ a u, G a → H a = some u → H' a = some u) : FdR Γ M' H' v x G := by
  cases x with
  | dat d => exact ⟨h.1.go g, h.2⟩
  | lst ds => obtain ⟨p, vs, e, hp, r, n⟩ := h; exact ⟨p, vs, e, k p _ ((n p).mpr rfl) hp, r.go g, n⟩
  | dic kvs => obtain ⟨p, vs, e, hp, r, n⟩ := h; exact ⟨p, vs, e, k p _ ((n p).mpr rfl) hp, r.go g, n⟩
/-- the attributes, one behind another; what they own is apart -/
inductive FdRs (Γ : Gam) (M : Addr → Prop) (H : Hp) : List (Str × V) → List (Str × Fd) → (Addr → Prop) → Prop
  | nil {G : Addr → Prop} : (∀ a, ¬ G a) → FdRs Γ M H [] [] G
  | cons {n : Str} {v : V} {x : Fd} {vs : List (Str × V)} {xs : List (Str × Fd)} {G G1 G2 : Addr → Prop} : FdR Γ M H v x G1 → FdRs Γ M H vs xs G2 → (∀ a, G1 a → ¬ G2 a) → (∀ a, G a ↔ G1 a ∨ G2 a) → FdRs Γ M H ((n, v) :: vs) ((n, x) :: xs) G
theorem FdRs.go {Γ : Gam} {M M' : Addr → Prop} {H H' : Hp} (g : Go M H M' H') : ∀ {vs : List (Str × V)} {xs : List (Str × Fd)} {G : Addr → Prop}, FdRs Γ M H vs xs G → (∀ a u, G a → H a = some u → H' a = some u) → FdRs Γ M' H' vs xs G
  | _, _, _, .nil h, _ => .nil h
  | _, _, _, .cons h r d e, k => .cons (h.go g fun a u z => k a u ((e a).mpr (.inl z))) (FdRs.go g r fun a u z => k a u ((e a).mpr (.inr z))) d e

/-- the value v bears s; Fr: the addresses that s owns -/
def SR (Γ : Gam) (M : Addr → Prop) (H : Hp) (v : V) (s : Sl Γ) (Fr : Addr → Prop) : Prop :=
  match s with
  | .none => False
  | .dat d => Dat Γ M H v d ∧ ∀ a, ¬ Fr a
  | .scr ns => (∃ a, v = .ref a ∧ LstM Γ.K M H a (ns.map V.int)) ∧ ∀ a, ¬ Fr a
  | .lst ds => ∃ p vs, v = .ref p ∧ H p = some (.lst vs) ∧ Dats Γ M H vs ds ∧ ∀ a, Fr a ↔ a = p
  | .dic kvs => ∃ p vs, v = .ref p ∧ H p = some (.dK vs) ∧ KDats Γ M H vs kvs ∧ ∀ a, Fr a ↔ a = p
  | .ins c fs => ∃ a C ns dx vs G, v = .ref a ∧ Γ.cls c = some (C, ns) ∧ H a = some (.ins C dx vs) ∧ FdRs Γ M H vs fs G ∧ ¬ G a ∧ ∀ b, Fr b ↔ b = a ∨ G b
  | .obj o => Γ.orep M H v o Fr
theorem SR.go {Γ : Gam} {M M' : Addr → Prop} {H H' : Hp} {v : V} {s : Sl Γ} {Fr : Addr → Prop} (h : SR Γ M H v s Fr) (g : Go M H M' H') (k : ∀ a u, Fr a → H a = some u → H' a = some u) : SR Γ M' H' v s Fr := by
  cases s with
  | none => exact h
  | dat d => exact ⟨h.1.go g, h.2⟩
  | scr ns => obtain ⟨⟨a, e, h⟩, n⟩ := h; exact ⟨⟨a, e, h.go g⟩, n⟩
  | lst ds => obtain ⟨p, vs, e, hp, r, n⟩ := h; exact ⟨p, vs, e, k p _ ((n p).mpr rfl) hp, r.go g, n⟩
  | dic kvs => obtain ⟨p, vs, e, hp, r, n⟩ := h; exact ⟨p, vs, e, k p _ ((n p).mpr rfl) hp, r.go g, n⟩
  | ins c fs =>
    obtain ⟨a, C, ns, dx, vs, G, e1, e2, hp, r, n, f⟩ := h
    exact ⟨a, C, ns, dx, vs, G, e1, e2, k a _ ((f a).mpr (.inl rfl)) hp, r.go g fun b u z => k b u ((f b).mpr (.inr z)), n, f⟩
  | obj o => exact Γ.omono M H M' H' v o Fr h (fun a u c e => c.elim (fun n => g.keep a u n e) fun f => k a u f e) g.stay

/-- a world: what may be changed (by whom ever), what each slot of this frame owns, the heap -/
structure Wd where
  M : Addr → Prop
  F : Nat → Addr → Prop
  H : Hp
abbrev Env (Γ : Gam) := List (Sl Γ)

def SltR (Γ : Gam) (w : Wd) (σ : St) (i : Nat) (s : Sl Γ) : Prop :=
  (s = .none ∧ ∀ a, ¬ w.F i a) ∨ ∃ v, σ[i]? = some (some v) ∧ SR Γ w.M w.H v s (w.F i)
structure ER (Γ : Gam) (w : Wd) (σ : St) (env : Env Γ) : Prop where
  len : env.length = σ.length
  slot : ∀ i s, env[i]? = some s → SltR Γ w σ i s
  sub : ∀ i a, w.F i a → w.M a
  dis : ∀ i j a, w.F i a → w.F j a → i = j
  dom : ∀ a, w.M a → w.H a ≠ none
  out : ∀ i, env.length ≤ i → ∀ a, ¬ w.F i a
structure Step (w w' : Wd) : Prop where
  keep : ∀ a u, (∀ i, ¬ w.F i a) → w.H a = some u → w'.H a = some u
  mu : ∀ a, (∀ i, ¬ w.F i a) → w.M a → w'.M a
  src : ∀ a, w'.M a → w.M a ∨ w.H a = none
  own : ∀ i a, w'.F i a → (∃ j, w.F j a) ∨ w.H a = none
  live : ∀ a, w.H a ≠ none → w'.H a ≠ none
theorem Step.refl (w : Wd) : Step w w := ⟨fun _ _ _ h => h, fun _ _ h => h, fun _ h => .inl h, fun i _ h => .inl ⟨i, h⟩, fun _ h => h⟩
theorem Step.off {w w' : Wd} (s : Step w w') {a : Addr} (h : ∀ i, ¬ w.F i a) (hn : w.H a ≠ none) : ∀ i, ¬ w'.F i a := fun i q => by
  rcases s.own i a q with ⟨j, z⟩ | z
  · exact h j z
  · exact hn z
theorem Step.trans {w w1 w2 : Wd} (s : Step w w1) (t : Step w1 w2) (dom : ∀ a, w.M a → w.H a ≠ none) : Step w w2 where
  keep := fun a u h e => t.keep a u (s.off h (by rw [e]; simp)) (s.keep a u h e)
  mu := fun a h m => t.mu a (s.off h (dom a m)) (s.mu a h m)
  src := fun a m => by
    rcases t.src a m with z | z
    · exact s.src a z
    · refine .inr ?_
      cases q : w.H a with
      | none => rfl
      | some u => exact absurd z (s.live a (by rw [q]; simp))
  own := fun i a f => by
    rcases t.own i a f with ⟨j, z⟩ | z
    · exact s.own j a z
    · refine .inr ?_
      cases q : w.H a with
      | none => rfl
      | some u => exact absurd z (s.live a (by rw [q]; simp))
  live := fun a h => t.live a (s.live a h)
def Fresh (w : Wd) (Fr : Addr → Prop) : Prop := ∀ a, Fr a → (∃ i, w.F i a) ∨ w.H a = none
theorem Fresh.back {w w1 : Wd} {Fr : Addr → Prop} (s : Step w w1) (h : Fresh w1 Fr) : Fresh w Fr := fun a f => by
  rcases h a f with ⟨j, z⟩ | z
  · exact s.own j a z
  · refine .inr ?_
    cases q : w.H a with
    | none => rfl
    | some u => exact absurd z (s.live a (by rw [q]; simp))
section
variable {Γ : Gam} {w w' : Wd} {σ : St} {env : Env Γ}
theorem ER.go (E : ER Γ w σ env) (s : Step w w') : Go w.M w.H w'.M w'.H :=
  ⟨fun a u n e => s.keep a u (fun i f => n (E.sub i a f)) e, fun a n e m => by
    rcases s.src a m with z | z
    · exact n z
    · exact e z⟩
/-- a temporary value: it owns Fr, which no slot owns -/
structure TR (Γ : Gam) (w : Wd) (v : V) (s : Sl Γ) (Fr : Addr → Prop) : Prop where
  rep : SR Γ w.M w.H v s Fr
  sub : ∀ a, Fr a → w.M a
  off : ∀ a i, Fr a → ¬ w.F i a
theorem TR.step {v : V} {s : Sl Γ} {Fr : Addr → Prop} (E : ER Γ w σ env) (t : TR Γ w v s Fr) (p : Step w w') : TR Γ w' v s Fr where
  rep := t.rep.go (E.go p) fun a u f e => p.keep a u (fun i => t.off a i f) e
  sub := fun a f => p.mu a (fun i => t.off a i f) (t.sub a f)
  off := fun a i f => p.off (fun j => t.off a j f) (E.dom a (t.sub a f)) i
end
end G

set_option maxHeartbeats 4000000
namespace G
open PySem L2

def wE (X : Cx) (e : Expr) : TE := fun σ H Q => ∀ pins s, Inv X pins σ H s → wpAny (model X.prog X.w) X.A (eval e X.env) (EP X pins σ Q) X.xe s
def wT (X : Cx) (e : Expr) : TT := fun σ H Q => ∀ pins s, Inv X pins σ H s → wpAny (model X.prog X.w) X.A (isTrue e X.env (eval e X.env)) (TP X pins σ Q) X.xe s
def wW (X : Cx) (e : Expr) : TT := fun σ H Q => ∀ whole pins s, Inv X pins σ H s → wpAny (model X.prog X.w) X.A (isTrue e X.env whole) (TP X pins σ Q) X.xe s
def wS (X : Cx) (st : Stmt) : TS := fun D σ H => ∀ pins s, Inv X pins σ H s → wpAny (model X.prog X.w) X.A (exec st X.env) (SP X pins D) X.xe s
def wSs (X : Cx) (st : List Stmt) : TS := fun D σ H => ∀ pins s, Inv X pins σ H s → wpAny (model X.prog X.w) X.A (execs st X.env) (SP X pins D) X.xe s
def wL (X : Cx) : List Expr → TA
  | [] => tNil
  | e :: es => tCons (wE X e) (wL X es)
section
variable {X : Cx} {e : Expr} {st : Stmt} {sts : List Stmt} {σ : St} {H : Hp}
theorem pe_wE : PE X e (wE X e) := ⟨fun pins s _ _ _ I h => h pins s I⟩
theorem pt_wT : PT X e (wT X e) := ⟨fun pins s _ _ _ I h => h pins s I⟩
theorem pw_wW : PW X e (wW X e) := ⟨fun whole pins s _ _ _ I h => h whole pins s I⟩
theorem ps_wS : PS X st (wS X st) := ⟨fun pins s _ _ _ I h => h pins s I⟩
theorem pss_wSs : PSs X sts (wSs X sts) := ⟨fun pins s _ _ _ I h => h pins s I⟩
theorem wE.of {t : TE} {Q : VK} (h : PE X e t) (q : t σ H Q) : wE X e σ H Q := fun pins s I => h.run pins s σ H Q I q
theorem wT.of {t : TT} {Q : Bool → Hp → Prop} (h : PT X e t) (q : t σ H Q) : wT X e σ H Q := fun pins s I => h.run pins s σ H Q I q
theorem wW.of {t : TT} {Q : Bool → Hp → Prop} (h : PW X e t) (q : t σ H Q) : wW X e σ H Q := fun whole pins s I => h.run whole pins s σ H Q I q
theorem wS.of {t : TS} {D : Ends} (h : PS X st t) (q : t D σ H) : wS X st D σ H := fun pins s I => h.run pins s σ H D I q
theorem wSs.of {t : TS} {D : Ends} (h : PSs X sts t) (q : t D σ H) : wSs X sts D σ H := fun pins s I => h.run pins s σ H D I q
/-- not starred -/
def NS (X : Cx) (e : Expr) : Prop := ∀ es, starEach (e :: es) X.env = (false, eval e X.env) :: starEach es X.env
theorem pa_wL : ∀ {es : List Expr}, (∀ e ∈ es, NS X e) → PA X es (wL X es)
  | [], _ => pa_nil
  | e :: es, h => pa_cons pe_wE (pa_wL fun x hx => h x (List.mem_cons_of_mem _ hx)) (h e List.mem_cons_self es)
end

/-- a context of ours -/
structure Gd (Γ : Gam) (X : Cx) : Prop where
  k : Γ.K = X.K
  calm : X.calm = true
  un : X.A.units + 65 < cLine
  nd : X.N.Nodup
abbrev Ev (Γ : Gam) := Env Γ → Option (Sl Γ × Env Γ)
abbrev Et (Γ : Gam) := Env Γ → Option (Bool × Env Γ)
structure SdE (Γ : Gam) (X : Cx) (e : Expr) (f : Ev Γ) : Prop where
  run : Gd Γ X → ∀ (σ : St) (env : Env Γ) (r : Sl Γ) (env' : Env Γ) (w : Wd) (Q : VK), f env = some (r, env') → ER Γ w σ env → (∀ v w' Fr, ER Γ w' σ env' → TR Γ w' v r Fr → Step w w' → Fresh w Fr → Q v w'.H) → wE X e σ w.H Q
instance {Γ : Gam} {X : Cx} {e : Expr} {f : Ev Γ} : CoeFun (SdE Γ X e f) (fun _ => Gd Γ X → ∀ (σ : St) (env : Env Γ) (r : Sl Γ) (env' : Env Γ) (w : Wd) (Q : VK), f env = some (r, env') → ER Γ w σ env → (∀ v w' Fr, ER Γ w' σ env' → TR Γ w' v r Fr → Step w w' → Fresh w Fr → Q v w'.H) → wE X e σ w.H Q) := ⟨SdE.run⟩
structure SdT (Γ : Gam) (X : Cx) (e : Expr) (f : Et Γ) : Prop where
  run : Gd Γ X → ∀ (σ : St) (env : Env Γ) (b : Bool) (env' : Env Γ) (w : Wd) (Q : Bool → Hp → Prop), f env = some (b, env') → ER Γ w σ env → (∀ w', ER Γ w' σ env' → Step w w' → Q b w'.H) → wT X e σ w.H Q
instance {Γ : Gam} {X : Cx} {e : Expr} {f : Et Γ} : CoeFun (SdT Γ X e f) (fun _ => Gd Γ X → ∀ (σ : St) (env : Env Γ) (b : Bool) (env' : Env Γ) (w : Wd) (Q : Bool → Hp → Prop), f env = some (b, env') → ER Γ w σ env → (∀ w', ER Γ w' σ env' → Step w w' → Q b w'.H) → wT X e σ w.H Q) := ⟨SdT.run⟩

inductive AE (Γ : Gam) where
  | brw (i : Nat) | ex (f : Ev Γ)
inductive Ag (Γ : Gam) where
  | brw (i : Nat) | val (s : Sl Γ)
def got {Γ : Gam} : Option (Sl Γ) → Option (Sl Γ)
  | some .none => Option.none
  | o => o
def evA {Γ : Gam} : AE Γ → Env Γ → Option (Ag Γ × Env Γ)
  | .brw i, env => (got env[i]?).map fun _ => (.brw i, env)
  | .ex f, env => (f env).map fun p => (.val p.1, p.2)
def peek {Γ : Gam} : Ag Γ → Env Γ → Option (Sl Γ)
  | .brw i, env => got env[i]?
  | .val s, _ => some s
def SdA (Γ : Gam) (X : Cx) (e : Expr) : AE Γ → Prop
  | .brw i => ∀ (σ : St) (H : Hp) (Q : VK) (v : V), σ[i]? = some (some v) → Q v H → wE X e σ H Q
  | .ex f => SdE Γ X e f
def AR (Γ : Gam) (w : Wd) (σ : St) (v : V) (a : Ag Γ) (Fr : Addr → Prop) : Prop :=
  match a with
  | .brw i => σ[i]? = some (some v) ∧ ∀ a, ¬ Fr a
  | .val s => TR Γ w v s Fr
section
variable {Γ : Gam} {X : Cx} {w w' w1 : Wd} {σ : St} {env env' : Env Γ}
theorem got_some {o : Option (Sl Γ)} {s : Sl Γ} (h : got o = some s) : o = some s ∧ s ≠ .none := by
  cases o with
  | none => cases h
  | some t =>
    cases t with
    | none => cases h
    | _ => cases h; exact ⟨rfl, by intro z; cases z⟩
theorem ER.at (E : ER Γ w σ env) {i : Nat} {s : Sl Γ} (h : got env[i]? = some s) : ∃ v, σ[i]? = some (some v) ∧ SR Γ w.M w.H v s (w.F i) := by
  obtain ⟨h1, h2⟩ := got_some h
  rcases E.slot i s h1 with ⟨z, _⟩ | z
  · exact absurd z h2
  · exact z
theorem AR.step {v : V} {a : Ag Γ} {Fr : Addr → Prop} (E : ER Γ w σ env) (h : AR Γ w σ v a Fr) (p : Step w w') : AR Γ w' σ v a Fr := by
  cases a with
  | brw i => exact h
  | val s => exact TR.step E h p
theorem AR.peek {v : V} {a : Ag Γ} {Fr : Addr → Prop} {s : Sl Γ} (E : ER Γ w σ env) (h : AR Γ w σ v a Fr) (p : peek a env = some s) : ∃ G, SR Γ w.M w.H v s G := by
  cases a with
  | brw i =>
    obtain ⟨u, e, r⟩ := E.at p
    have h1 := h.1
    rw [e] at h1
    cases h1
    exact ⟨_, r⟩
  | val t => cases p; exact ⟨Fr, h.rep⟩
theorem sda_run {e : Expr} {ae : AE Γ} {a : Ag Γ} {Q : VK} (h : SdA Γ X e ae) (hK : Gd Γ X) (he : evA ae env = some (a, env')) (E : ER Γ w σ env)
    (k : ∀ v w' Fr, ER Γ w' σ env' → AR Γ w' σ v a Fr → Step w w' → Fresh w Fr → Q v w'.H) : wE X e σ w.H Q := by
  cases ae with
  | brw i =>
    cases g : got env[i]? with
    | none => simp only [evA, g, Option.map_none] at he; cases he
    | some s =>
      simp only [evA, g, Option.map_some] at he
      cases he
      obtain ⟨v, e1, r⟩ := E.at g
      exact h σ w.H Q v e1 (k v w (fun _ => False) E ⟨e1, fun _ z => z⟩ (Step.refl w) fun _ z => z.elim)
  | ex f =>
    cases g : f env with
    | none => simp only [evA, g, Option.map_none] at he; cases he
    | some p =>
      obtain ⟨s, env1⟩ := p
      simp only [evA, g, Option.map_some] at he
      cases he
      exact SdE.run h hK σ env s _ w Q g E k

def Res (Γ : Gam) (M : Addr → Prop) (H : Hp) (s : Sl Γ) (Q : VK) : Prop := ∀ v H' Fr, (∀ a u, H a = some u → H' a = some u) → (∀ a, Fr a → H a = none ∧ H' a ≠ none) → SR Γ (fun a => M a ∨ Fr a) H' v s Fr → Q v H'
theorem ER.grow {Fr : Addr → Prop} {H' : Hp} (E : ER Γ w σ env) (h1 : ∀ a u, w.H a = some u → H' a = some u) (h2 : ∀ a, Fr a → w.H a = none ∧ H' a ≠ none) : ER Γ ⟨fun a => w.M a ∨ Fr a, w.F, H'⟩ σ env ∧ Step w ⟨fun a => w.M a ∨ Fr a, w.F, H'⟩ := by
  have lv : ∀ a, w.H a ≠ none → H' a ≠ none := fun a h => by
    cases q : w.H a with
    | none => exact absurd q h
    | some u => rw [h1 a u q]; simp
  have st : Step w ⟨fun a => w.M a ∨ Fr a, w.F, H'⟩ := ⟨fun a u _ e => h1 a u e, fun a _ m => .inl m, fun a m => m.imp id fun z => (h2 a z).1, fun i a f => .inl ⟨i, f⟩, lv⟩
  have g := E.go st
  refine ⟨⟨E.len, fun i s e => ?_, fun i a f => .inl (E.sub i a f), E.dis, fun a m => ?_, E.out⟩, st⟩
  · rcases E.slot i s e with z | ⟨v, e1, r⟩
    · exact .inl z
    · exact .inr ⟨v, e1, r.go g fun a u _ q => h1 a u q⟩
  · rcases m with m | m
    · exact lv a (E.dom a m)
    · exact (h2 a m).2
theorem res_of {s : Sl Γ} {Q : VK} (E : ER Γ w σ env) (k : ∀ v w' Fr, ER Γ w' σ env → TR Γ w' v s Fr → Step w w' → Fresh w Fr → Q v w'.H) : Res Γ w.M w.H s Q := fun v H' Fr h1 h2 h3 => by
  obtain ⟨E', st⟩ := E.grow h1 h2
  exact k v _ Fr E' ⟨h3, fun a f => .inr f, fun a i f z => E.dom a (E.sub i a z) (h2 a f).1⟩ st fun a f => .inr (h2 a f).1
variable {M : Addr → Prop} {H : Hp} {Q : VK}
theorem go_or {M : Addr → Prop} {H : Hp} : Go M H (fun a => M a ∨ False) H := ⟨fun _ _ _ h => h, fun _ n _ z => z.elim n id⟩
theorem Res.dat {d : D} {v : V} (k : Res Γ M H (.dat d) Q) (h : Dat Γ M H v d) : Q v H := k v H (fun _ => False) (fun _ _ h => h) (fun _ z => z.elim) ⟨h.go go_or, fun _ z => z⟩
theorem upd_keep {H : Hp} {p : Addr} {o : HO} (hp : H p = none) : ∀ a u, H a = some u → upd H p o a = some u := fun a u e => by rw [upd_ne (ne_of_none e hp)]; exact e
theorem go_new {M : Addr → Prop} {H : Hp} {p : Addr} {o : HO} (hp : H p = none) (N : Addr → Prop) (hN : ∀ a, N a → M a ∨ a = p) : Go M H N (upd H p o) :=
  ⟨fun a u _ e => upd_keep hp a u e, fun a n e z => (hN a z).elim n fun q => e (q ▸ hp)⟩
theorem Res.tup {vs : List V} {ds : List D} {p : Addr} (k : Res Γ M H (.dat (.tup ds)) Q) (dom : ∀ a, M a → H a ≠ none) (h : Dats Γ M H vs ds) (hp : H p = none) : Q (.ref p) (upd H p (.tup vs)) :=
  k _ _ (fun _ => False) (upd_keep hp) (fun _ z => z.elim) ⟨.tup (.inl ⟨fun z => z.elim (fun m => dom p m hp) id, .inl upd_same⟩) (h.go (go_new hp _ fun a z => .inl (z.elim id False.elim))), fun _ z => z⟩
theorem Res.lst {vs : List V} {ds : List D} {p : Addr} (k : Res Γ M H (.lst ds) Q) (h : Dats Γ M H vs ds) (hp : H p = none) : Q (.ref p) (upd H p (.lst vs)) :=
  k _ _ (fun a => a = p) (upd_keep hp) (fun a z => by subst z; exact ⟨hp, by rw [upd_same]; simp⟩) ⟨p, vs, rfl, upd_same, h.go (go_new hp _ fun a z => z), fun a => Iff.rfl⟩
end

def Prim1 (Γ : Gam) (r : V → Hp → VK → Prop) (p : Sl Γ → Option (Sl Γ)) : Prop := ∀ (M : Addr → Prop) (H : Hp) (x : V) (sx s : Sl Γ) (Gx : Addr → Prop) (Q : VK), (∀ a, M a → H a ≠ none) → p sx = some s → SR Γ M H x sx Gx → Res Γ M H s Q → r x H Q
def Prim2 (Γ : Gam) (r : R2) (p : Sl Γ → Sl Γ → Option (Sl Γ)) : Prop := ∀ (M : Addr → Prop) (H : Hp) (x y : V) (sx sy s : Sl Γ) (Gx Gy : Addr → Prop) (Q : VK), (∀ a, M a → H a ≠ none) → p sx sy = some s → SR Γ M H x sx Gx → SR Γ M H y sy Gy → Res Γ M H s Q → r x y H Q
inductive SRs (Γ : Gam) (M : Addr → Prop) (H : Hp) : List V → List (Sl Γ) → Prop
  | nil : SRs Γ M H [] []
  | cons {v : V} {vs : List V} {s : Sl Γ} {ss : List (Sl Γ)} {Gf : Addr → Prop} : SR Γ M H v s Gf → SRs Γ M H vs ss → SRs Γ M H (v :: vs) (s :: ss)
def PrimN (Γ : Gam) (r : List V → Hp → VK → Prop) (p : List (Sl Γ) → Option (Sl Γ)) : Prop := ∀ (M : Addr → Prop) (H : Hp) (xs : List V) (ss : List (Sl Γ)) (s : Sl Γ) (Q : VK), (∀ a, M a → H a ≠ none) → p ss = some s → SRs Γ M H xs ss → Res Γ M H s Q → r xs H Q
def m1 {Γ : Gam} (p : Sl Γ → Option (Sl Γ)) (a : AE Γ) : Ev Γ := fun env =>
  match evA a env with
  | none => none
  | some (x, env1) => match peek x env1 with
    | none => none
    | some sx => (p sx).map fun s => (s, env1)
def m2 {Γ : Gam} (p : Sl Γ → Sl Γ → Option (Sl Γ)) (a b : AE Γ) : Ev Γ := fun env =>
  match evA a env with
  | none => none
  | some (x, env1) => match evA b env1 with
    | none => none
    | some (y, env2) => match peek x env2, peek y env2 with
      | some sx, some sy => (p sx sy).map fun s => (s, env2)
      | _, _ => none
def evAs {Γ : Gam} : List (AE Γ) → Env Γ → Option (List (Ag Γ) × Env Γ)
  | [], env => some ([], env)
  | a :: as, env => match evA a env with
    | none => none
    | some (x, env1) => (evAs as env1).map fun p => (x :: p.1, p.2)
def peeks {Γ : Gam} : List (Ag Γ) → Env Γ → Option (List (Sl Γ))
  | [], _ => some []
  | a :: as, env => match peek a env, peeks as env with
    | some s, some ss => some (s :: ss)
    | _, _ => none
def mN {Γ : Gam} (p : List (Sl Γ) → Option (Sl Γ)) (as : List (AE Γ)) : Ev Γ := fun env =>
  match evAs as env with
  | none => none
  | some (xs, env1) => match peeks xs env1 with
    | none => none
    | some ss => (p ss).map fun s => (s, env1)
section
variable {Γ : Gam} {X : Cx} {w : Wd} {σ : St} {env env' : Env Γ} {a b : Expr} {fa fb : AE Γ} {Q : VK} {s : Sl Γ}
theorem run1 {r : V → Hp → VK → Prop} {p : Sl Γ → Option (Sl Γ)} (hp : Prim1 Γ r p) (ha : SdA Γ X a fa) (hK : Gd Γ X) (he : m1 p fa env = some (s, env')) (E : ER Γ w σ env)
    (k : ∀ v w' Fr, ER Γ w' σ env' → TR Γ w' v s Fr → Step w w' → Fresh w Fr → Q v w'.H) : wE X a σ w.H fun x H1 => r x H1 Q := by
  unfold m1 at he
  cases g1 : evA fa env with
  | none => rw [g1] at he; cases he
  | some q =>
    obtain ⟨x, env1⟩ := q
    rw [g1] at he
    cases g2 : peek x env1 with
    | none => simp only [g2] at he; cases he
    | some sx =>
      simp only [g2] at he
      cases g3 : p sx with
      | none => rw [g3] at he; cases he
      | some s1 =>
        rw [g3] at he
        cases he
        refine sda_run ha hK g1 E fun v w1 Fr E1 A1 p1 f1 => ?_
        obtain ⟨G1, r1⟩ := A1.peek E1 g2
        exact hp w1.M w1.H v sx s G1 Q E1.dom g3 r1 (res_of E1 fun v2 w2 Fr2 E2 T2 p2 f2 => k v2 w2 Fr2 E2 T2 (p1.trans p2 E.dom) (f2.back p1))
theorem run2 {r : R2} {p : Sl Γ → Sl Γ → Option (Sl Γ)} (hp : Prim2 Γ r p) (ha : SdA Γ X a fa) (hb : SdA Γ X b fb) (hK : Gd Γ X) (he : m2 p fa fb env = some (s, env')) (E : ER Γ w σ env)
    (k : ∀ v w' Fr, ER Γ w' σ env' → TR Γ w' v s Fr → Step w w' → Fresh w Fr → Q v w'.H) : wE X a σ w.H fun x H1 => wE X b σ H1 fun y H2 => r x y H2 Q := by
  unfold m2 at he
  cases g1 : evA fa env with
  | none => rw [g1] at he; cases he
  | some q =>
    obtain ⟨x, env1⟩ := q
    simp only [g1] at he
    cases g2 : evA fb env1 with
    | none => simp only [g2] at he; cases he
    | some q =>
      obtain ⟨y, env2⟩ := q
      simp only [g2] at he
      cases g3 : peek x env2 with
      | none => simp only [g3] at he; cases he
      | some sx =>
        cases g4 : peek y env2 with
        | none => simp only [g3, g4] at he; cases he
        | some sy =>
          simp only [g3, g4] at he
          cases g5 : p sx sy with
          | none => rw [g5] at he; cases he
          | some s1 =>
            rw [g5] at he
            cases he
            refine sda_run ha hK g1 E fun v w1 Fr E1 A1 p1 f1 => ?_
            refine sda_run hb hK g2 E1 fun u w2 Fr2 E2 A2 p2 f2 => ?_
            obtain ⟨G1, r1⟩ := (A1.step E1 p2).peek E2 g3
            obtain ⟨G2, r2⟩ := A2.peek E2 g4
            have p12 := p1.trans p2 E.dom
            exact hp w2.M w2.H v u sx sy s G1 G2 Q E2.dom g5 r1 r2 (res_of E2 fun v3 w3 Fr3 E3 T3 p3 f3 => k v3 w3 Fr3 E3 T3 (p12.trans p3 E.dom) (f3.back p12))
/-- several operands -/
inductive SdL (Γ : Gam) (X : Cx) : List Expr → List (AE Γ) → Prop
  | nil : SdL Γ X [] []
  | cons {e : Expr} {es : List Expr} {a : AE Γ} {as : List (AE Γ)} : SdA Γ X e a → NS X e → SdL Γ X es as → SdL Γ X (e :: es) (a :: as)
theorem SdL.ns : ∀ {es : List Expr} {as : List (AE Γ)}, SdL Γ X es as → ∀ e ∈ es, NS X e
  | _, _, .nil, _, h => nomatch h
  | _, _, .cons _ n r, e, h => by
    rcases List.mem_cons.mp h with z | z
    · subst z; exact n
    · exact SdL.ns r e z
/-- the operands' values, each with what it owns -/
inductive ARs (Γ : Gam) (w : Wd) (σ : St) : List V → List (Ag Γ) → List (Addr → Prop) → Prop
  | nil : ARs Γ w σ [] [] []
  | cons {v : V} {vs : List V} {a : Ag Γ} {as : List (Ag Γ)} {Fr : Addr → Prop} {Frs : List (Addr → Prop)} : AR Γ w σ v a Fr → (∀ G ∈ Frs, ∀ x, Fr x → ¬ G x) → ARs Γ w σ vs as Frs → ARs Γ w σ (v :: vs) (a :: as) (Fr :: Frs)
theorem ARs.step {w' : Wd} (E : ER Γ w σ env) (p : Step w w') : ∀ {vs : List V} {as : List (Ag Γ)} {Frs : List (Addr → Prop)}, ARs Γ w σ vs as Frs → ARs Γ w' σ vs as Frs
  | _, _, _, .nil => .nil
  | _, _, _, .cons h d r => .cons (h.step E p) d (ARs.step E p r)
theorem ARs.peeks (E : ER Γ w σ env) : ∀ {vs : List V} {as : List (Ag Γ)} {Frs : List (Addr → Prop)} {ss : List (Sl Γ)}, ARs Γ w σ vs as Frs → peeks as env = some ss → SRs Γ w.M w.H vs ss
  | _, _, _, _, .nil, h => by cases h; exact .nil
  | _, _, _, _, .cons (a := a) (as := as) h d r, e => by
    unfold G.peeks at e
    cases g1 : peek a env with
    | none => simp only [g1] at e; cases e
    | some s =>
      cases g2 : G.peeks as env with
      | none => simp only [g1, g2] at e; cases e
      | some ss =>
        simp only [g1, g2] at e
        cases e
        obtain ⟨G1, r1⟩ := h.peek E g1
        exact .cons r1 (ARs.peeks E r g2)
theorem ARs.fresh {w0 : Wd} : ∀ {vs : List V} {as : List (Ag Γ)} {Frs : List (Addr → Prop)}, ARs Γ w σ vs as Frs → (∀ G ∈ Frs, Fresh w0 G) → True
  | _, _, _, _, _ => trivial
theorem AR.here {v : V} {a : Ag Γ} {Fr : Addr → Prop} (E : ER Γ w σ env) (h : AR Γ w σ v a Fr) : ∀ x, Fr x → w.H x ≠ none ∧ ∀ i, ¬ w.F i x := fun x f => by
  cases a with
  | brw i => exact absurd f (h.2 x)
  | val s => exact ⟨E.dom x (h.sub x f), fun i => h.off x i f⟩
theorem sdl_run (hK : Gd Γ X) : ∀ {es : List Expr} {as : List (AE Γ)} {xs : List (Ag Γ)} {env env' : Env Γ} {w : Wd} {Q : List V → Hp → Prop}, SdL Γ X es as → evAs as env = some (xs, env') → ER Γ w σ env →
    (∀ vs w' Frs, ER Γ w' σ env' → ARs Γ w' σ vs xs Frs → Step w w' → (∀ G ∈ Frs, Fresh w G) → Q vs w'.H) → wL X es σ w.H Q
  | _, _, _, _, _, w, _, .nil, he, E, k => by
    cases he
    exact k [] w [] E .nil (Step.refl w) (fun _ h => nomatch h)
  | _, _, _, env, _, w, Q, .cons (e := e) (es := es) (a := a) (as := as) h1 n h2, he, E, k => by
    unfold evAs at he
    cases g1 : evA a env with
    | none => simp only [g1] at he; cases he
    | some q =>
      obtain ⟨x, env1⟩ := q
      simp only [g1] at he
      cases g2 : evAs as env1 with
      | none => simp only [g2] at he; cases he
      | some q =>
        obtain ⟨xs1, env2⟩ := q
        simp only [g2, Option.map_some] at he
        cases he
        show wE X e σ w.H fun v H1 => wL X es σ H1 fun vs H2 => Q (v :: vs) H2
        refine sda_run h1 hK g1 E fun v w1 Fr E1 A1 p1 f1 => ?_
        refine sdl_run hK h2 g2 E1 fun vs w2 Frs E2 A2 p2 f2 => ?_
        refine k (v :: vs) w2 (Fr :: Frs) E2 (.cons (A1.step E1 p2) (fun G hG x hx gx => ?_) A2) (p1.trans p2 E.dom) (fun G hG => ?_)
        · obtain ⟨q1, q2⟩ := A1.here E1 x hx
          rcases f2 G hG x gx with ⟨i, z⟩ | z
          · exact q2 i z
          · exact q1 z
        · rcases List.mem_cons.mp hG with z | z
          · subst z; exact f1
          · exact (f2 G z).back p1
theorem runN {r : List V → Hp → VK → Prop} {p : List (Sl Γ) → Option (Sl Γ)} {es : List Expr} {as : List (AE Γ)} (hp : PrimN Γ r p) (ha : SdL Γ X es as) (hK : Gd Γ X) (he : mN p as env = some (s, env')) (E : ER Γ w σ env)
    (k : ∀ v w' Fr, ER Γ w' σ env' → TR Γ w' v s Fr → Step w w' → Fresh w Fr → Q v w'.H) : wL X es σ w.H fun vs H1 => r vs H1 Q := by
  unfold mN at he
  cases g1 : evAs as env with
  | none => simp only [g1] at he; cases he
  | some q =>
    obtain ⟨xs, env1⟩ := q
    simp only [g1] at he
    cases g2 : peeks xs env1 with
    | none => simp only [g2] at he; cases he
    | some ss =>
      simp only [g2] at he
      cases g3 : p ss with
      | none => rw [g3] at he; cases he
      | some s1 =>
        rw [g3] at he
        cases he
        refine sdl_run hK ha g1 E fun vs w1 Frs E1 A1 p1 f1 => ?_
        exact hp w1.M w1.H vs ss s Q E1.dom g3 (A1.peeks E1 g2) (res_of E1 fun v2 w2 Fr2 E2 T2 p2 f2 => k v2 w2 Fr2 E2 T2 (p1.trans p2 E.dom) (f2.back p1))
end
end G

set_option maxHeartbeats 4000000
namespace G
open PySem L2

mutual
def D.toPy : D → PyData
  | .non => .none
  | .bl b => .bool b
  | .int i => .int i
  | .str s => .str s
  | .tup xs => .tuple (D.toPys xs)
  | .lst xs => .list (D.toPys xs)
  | .ins _ _ => .dict []
  | .odd => .dict []
  | .dic _ _ => .dict []
  | .cls _ => .dict []
  | .val _ _ => .dict []
  | .raw _ => .dict []
def D.toPys : List D → List PyData
  | [] => []
  | x :: xs => D.toPy x :: D.toPys xs
end
mutual
theorem Dat.dp {Γ : Gam} {M : Addr → Prop} {H : Hp} : ∀ {v : V} {d : D}, Dat Γ M H v d → d.toPy.canLay0 = true → Dp Γ.K H v d.toPy
  | _, _, .non, _ => by unfold D.toPy; exact .non
  | _, _, .bl b, _ => by unfold D.toPy; exact .bl b
  | _, _, .int i, _ => by unfold D.toPy; exact .int i
  | _, _, .str x, _ => by unfold D.toPy; exact .str x
  | _, _, .tup h r, c => by
    unfold D.toPy at c ⊢
    exact .tup h.sq (Dats.dp r (by unfold PyData.canLay0 at c; exact c))
  | _, _, .lst n h r, c => by
    unfold D.toPy at c ⊢
    exact .lst (SqL.of h) (Dats.dp r (by unfold PyData.canLay0 at c; exact c))
  | _, _, .ins e n h l r, c => by unfold D.toPy at c; unfold PyData.canLay0 at c; cases c
  | _, _, .odd n h, c => by unfold D.toPy at c; unfold PyData.canLay0 at c; cases c
  | _, _, .dic n h l r, c => by unfold D.toPy at c; unfold PyData.canLay0 at c; cases c
  | _, _, .cls e, c => by unfold D.toPy at c; unfold PyData.canLay0 at c; cases c
  | _, _, .val h, c => by unfold D.toPy at c; unfold PyData.canLay0 at c; cases c
  | _, _, .raw _, c => by unfold D.toPy at c; unfold PyData.canLay0 at c; cases c
theorem Dats.dp {Γ : Gam} {M : Addr → Prop} {H : Hp} : ∀ {vs : List V} {ds : List D}, Dats Γ M H vs ds → PyData.canLayAll0 (D.toPys ds) = true → DpAll Γ.K H vs (D.toPys ds)
  | _, _, .nil, _ => by unfold D.toPys; exact .nil
  | _, _, .cons h r, c => by
    unfold D.toPys at c ⊢
    unfold PyData.canLayAll0 at c
    rw [Bool.and_eq_true] at c
    exact .cons (h.dp c.1) (Dats.dp r c.2)
end
theorem toPys_map : ∀ xs : List D, D.toPys xs = xs.map D.toPy
  | [] => by unfold D.toPys; rfl
  | x :: xs => by unfold D.toPys; rw [toPys_map xs]; rfl

/-- the data that is read there now -/
def Sl.view {Γ : Gam} : Sl Γ → Option D
  | .dat d => some d
  | .lst ds => some (.lst ds)
  | .scr ns => some (.lst (ns.map D.int))
  | _ => Option.none
theorem dats_ints {Γ : Gam} {M : Addr → Prop} {H : Hp} : ∀ ns : List Int, Dats Γ M H (ns.map V.int) (ns.map D.int)
  | [] => .nil
  | n :: ns => .cons (.int n) (dats_ints ns)
section
variable {Γ : Gam} {X : Cx} {M : Addr → Prop} {H : Hp} {v x y : V} {s sx sy : Sl Γ} {G' Gx Gy : Addr → Prop} {d : D} {ds : List D}
/-- a list, a tuple as it is read now -/
theorem SR.list (h : SR Γ M H v s G') (e : s.view = some (.lst ds)) : ∃ p vs, v = .ref p ∧ SqL Γ.K H p vs ∧ Dats Γ M H vs ds := by
  cases s with
  | dat d =>
    cases e
    cases h.1 with
    | lst n hp r => exact ⟨_, _, rfl, SqL.of hp, r⟩
  | lst es => cases e; obtain ⟨p, vs, e, hp, r, n⟩ := h; exact ⟨p, vs, e, SqL.of hp, r⟩
  | scr ns => cases e; obtain ⟨⟨a, e, h⟩, n⟩ := h; exact ⟨a, _, e, h.sq, dats_ints ns⟩
  | _ => cases e
theorem SR.tuple (h : SR Γ M H v s G') (e : s.view = some (.tup ds)) : ∃ p vs, v = .ref p ∧ TupM Γ.K M H p vs ∧ Dats Γ M H vs ds := by
  cases s with
  | dat d =>
    cases e
    cases h.1 with
    | tup hp r => exact ⟨_, _, rfl, hp, r⟩
  | lst es => cases e
  | scr ns => cases e
  | _ => cases e
theorem SR.dp (h : SR Γ M H v s G') (e : s.view = some d) (c : d.toPy.canLay0 = true) : Dp Γ.K H v d.toPy := by
  cases s with
  | dat d => cases e; exact h.1.dp c
  | lst es =>
    cases e
    obtain ⟨p, vs, rfl, hq, r⟩ := h.list (ds := es) rfl
    unfold D.toPy at c ⊢
    exact .lst hq (r.dp (by unfold PyData.canLay0 at c; exact c))
  | scr ns =>
    cases e
    obtain ⟨p, vs, rfl, hq, r⟩ := h.list (ds := ns.map D.int) rfl
    unfold D.toPy at c ⊢
    exact .lst hq (r.dp (by unfold PyData.canLay0 at c; exact c))
  | _ => cases e
theorem SR.scal (h : SR Γ M H v s G') : (∀ i, s.view = some (.int i) → v = .int i) ∧ (∀ b, s.view = some (.bl b) → v = .bl b) ∧ (∀ t, s.view = some (.str t) → v = .str t) ∧ (s.view = some .non → v = .non) := by
  cases s with
  | dat d =>
    refine ⟨fun i e => ?_, fun i e => ?_, fun i e => ?_, fun e => ?_⟩ <;> (cases e; cases h.1; rfl)
  | lst es => exact ⟨fun _ e => (nomatch e), fun _ e => (nomatch e), fun _ e => (nomatch e), fun e => (nomatch e)⟩
  | scr ns => exact ⟨fun _ e => (nomatch e), fun _ e => (nomatch e), fun _ e => (nomatch e), fun e => (nomatch e)⟩
  | _ => exact ⟨fun _ e => (nomatch e), fun _ e => (nomatch e), fun _ e => (nomatch e), fun e => (nomatch e)⟩
theorem SR.int {i : Int} (h : SR Γ M H v s G') (e : s.view = some (.int i)) : v = .int i := h.scal.1 i e
theorem SR.bl {b : Bool} (h : SR Γ M H v s G') (e : s.view = some (.bl b)) : v = .bl b := h.scal.2.1 b e
theorem SR.str {t : Str} (h : SR Γ M H v s G') (e : s.view = some (.str t)) : v = .str t := h.scal.2.2.1 t e
theorem SR.non (h : SR Γ M H v s G') (e : s.view = some .non) : v = .non := h.scal.2.2.2 e
end

def di {Γ : Gam} (i : Int) : Sl Γ := .dat (.int i)
def db {Γ : Gam} (b : Bool) : Sl Γ := .dat (.bl b)
def ds {Γ : Gam} (t : Str) : Sl Γ := .dat (.str t)

def pAdd {Γ : Gam} (x y : Sl Γ) : Option (Sl Γ) :=
  match x.view, y.view with
  | some (.int i), some (.int j) => some (di (i + j))
  | some (.str a), some (.str b) => if a.length + b.length ≤ sizeLine then some (ds (a ++ b)) else none
  | some (.tup a), some (.tup b) => if a.length + b.length ≤ sizeLine then some (.dat (.tup (a ++ b))) else none
  | some (.lst a), some (.lst b) => match x, y with
    | .scr _, _ => none
    | _, .scr _ => none
    | _, _ => if a.length + b.length ≤ sizeLine then some (.lst (a ++ b)) else none
  | _, _ => none
def rAddAll (K : PySem.W.Frag) : R2 := fun x y H Q => rI0 (fun i j => V.int (i + j)) x y H Q ∨ ((∃ i j, x = V.str i ∧ y = V.str j ∧ i.length + j.length ≤ sizeLine ∧ Q (.str (i ++ j)) H) ∨ (rCatA K x y H Q ∨ rCat x y H Q))
theorem op_addAll {X : Cx} : OpR X (binaryOp .Add) (rAddAll X.K) := OpR.or op_add (OpR.or op_add_str (OpR.or op_catA op_cat))
theorem SR.lstW {Γ : Gam} {M : Addr → Prop} {H : Hp} {v : V} {s : Sl Γ} {G' : Addr → Prop} {ds : List D} (h : SR Γ M H v s G') (e : s.view = some (.lst ds)) (n : ∀ ns, s ≠ .scr ns) : ∃ p vs, v = .ref p ∧ H p = some (.lst vs) ∧ Dats Γ M H vs ds := by
  cases s with
  | dat d =>
    cases e
    cases h.1 with
    | lst n hp r => exact ⟨_, _, rfl, hp, r⟩
  | lst es => cases e; obtain ⟨p, vs, e, hp, r, n⟩ := h; exact ⟨p, vs, e, hp, r⟩
  | scr ns => exact absurd rfl (n ns)
  | _ => cases e
theorem pAdd_ok {Γ : Gam} : Prim2 Γ (rAddAll Γ.K) pAdd := by
  intro M H x y sx sy s Gx Gy Q dom hp hx hy k
  unfold pAdd at hp
  split at hp
  · rename_i i j e1 e2
    cases hp
    cases hx.int e1; cases hy.int e2
    exact .inl ⟨i, j, rfl, rfl, k.dat (.int _)⟩
  · rename_i a b e1 e2
    split at hp
    · rename_i hl
      cases hp
      cases hx.str e1; cases hy.str e2
      exact .inr (.inl ⟨a, b, rfl, rfl, hl, k.dat (.str _)⟩)
    · cases hp
  · rename_i a b e1 e2
    split at hp
    · rename_i hl
      cases hp
      obtain ⟨p, vs, rfl, hp, r⟩ := hx.tuple e1
      obtain ⟨q, ws, rfl, hq, r'⟩ := hy.tuple e2
      refine .inr (.inr (.inl ⟨p, q, vs, ws, rfl, rfl, hp.sq, hq.sq, by rw [r.length, r'.length]; exact hl, fun e => ?_, fun _ e => ?_, fun _ _ l hl => k.tup dom (r.append r') hl⟩))
      · subst e; cases r; exact k.dat (.tup hq r')
      · subst e; cases r'; rw [List.append_nil] at k; exact k.dat (.tup hp r)
    · cases hp
  · rename_i a b e1 e2
    split at hp
    · cases hp
    · cases hp
    · rename_i n1 n2
      split at hp
      · rename_i hl
        cases hp
        obtain ⟨p, vs, rfl, hp, r⟩ := hx.lstW e1 (fun ns z => n1 ns z)
        obtain ⟨q, ws, rfl, hq, r'⟩ := hy.lstW e2 (fun ns z => n2 ns z)
        exact .inr (.inr (.inr ⟨p, q, vs, ws, rfl, rfl, hp, hq, by rw [r.length, r'.length]; exact hl, fun l hl => k.lst (r.append r') hl⟩))
      · cases hp
  · cases hp
/-- an operation on two ints under a condition -/
def pI {Γ : Gam} (C : Int → Int → Prop) [∀ i j, Decidable (C i j)] (g : Int → Int → D) (x y : Sl Γ) : Option (Sl Γ) :=
  match x.view, y.view with
  | some (.int i), some (.int j) => if C i j then some (.dat (g i j)) else none
  | _, _ => none
theorem pI_ok {Γ : Gam} {C C' : Int → Int → Prop} [∀ i j, Decidable (C i j)] {g : Int → Int → D} {g' : Int → Int → V} (hc : ∀ i j, C i j → C' i j) (hg : ∀ M H i j, C i j → Dat Γ M H (g' i j) (g i j)) : Prim2 Γ (rI C' g') (pI C g) := by
  intro M H x y sx sy s Gx Gy Q dom hp hx hy k
  unfold pI at hp
  split at hp
  · rename_i i j e1 e2
    split at hp
    · rename_i c
      cases hp
      cases hx.int e1; cases hy.int e2
      exact ⟨i, j, rfl, rfl, hc i j c, k.dat (hg M H i j c)⟩
    · cases hp
  · cases hp
def p0 {Γ : Gam} (g : Int → Int → D) (x y : Sl Γ) : Option (Sl Γ) :=
  match x.view, y.view with
  | some (.int i), some (.int j) => some (.dat (g i j))
  | _, _ => none
theorem p0_ok {Γ : Gam} {g : Int → Int → D} {g' : Int → Int → V} (hg : ∀ M H i j, Dat Γ M H (g' i j) (g i j)) : Prim2 Γ (rI0 g') (p0 g) := by
  intro M H x y sx sy s Gx Gy Q dom hp hx hy k
  unfold p0 at hp
  split at hp
  · rename_i i j e1 e2
    cases hp
    cases hx.int e1; cases hy.int e2
    exact ⟨i, j, rfl, rfl, k.dat (hg M H i j)⟩
  · cases hp
def pSub {Γ : Gam} : Sl Γ → Sl Γ → Option (Sl Γ) := p0 fun i j => .int (i - j)
theorem pSub_ok {Γ : Gam} : Prim2 Γ (rI0 fun i j => .int (i - j)) (pSub (Γ := Γ)) := p0_ok fun _ _ _ _ => .int _
def cMul (i j : Int) : Prop := i.natAbs < 2 ^ 64 ∨ j.natAbs < 2 ^ 64
instance (i j : Int) : Decidable (cMul i j) := by unfold cMul; infer_instance
theorem cMul_ok (i j : Int) (h : cMul i j) : CMul i j := by
  unfold cMul at h
  unfold CMul
  omega
def pMul {Γ : Gam} : Sl Γ → Sl Γ → Option (Sl Γ) := pI cMul fun i j => .int (i * j)
theorem pMul_ok {Γ : Gam} : Prim2 Γ (rI CMul fun i j => .int (i * j)) (pMul (Γ := Γ)) := pI_ok cMul_ok fun _ _ _ _ _ => .int _
def cDiv (_ j : Int) : Prop := 0 < j ∧ j < 2 ^ 200
instance (i j : Int) : Decidable (cDiv i j) := by unfold cDiv; infer_instance
def pDiv {Γ : Gam} : Sl Γ → Sl Γ → Option (Sl Γ) := pI cDiv fun i j => .int (i / j)
theorem pDiv_ok {Γ : Gam} : Prim2 Γ (rI CDivW fun i j => .int (i / j)) (pDiv (Γ := Γ)) := pI_ok (fun i j h => wide_div (b := 200) h.1 (by have h1 := h.1; have h2 := h.2; omega) (by decide) (by decide)) fun _ _ _ _ _ => .int _
def cMod (_ j : Int) : Prop := 0 < j
instance (i j : Int) : Decidable (cMod i j) := by unfold cMod; infer_instance
def pMod {Γ : Gam} : Sl Γ → Sl Γ → Option (Sl Γ) := pI cMod fun i j => .int (i % j)
theorem pMod_ok {Γ : Gam} : Prim2 Γ (rI (fun _ j => 0 < j) fun i j => .int (i % j)) (pMod (Γ := Γ)) := pI_ok (fun i j h => h) fun _ _ _ _ _ => .int _
def cPow (i j : Int) : Prop := 0 ≤ j ∧ j ≤ 1000 ∧ i.natAbs < 2 ^ 64
instance (i j : Int) : Decidable (cPow i j) := by unfold cPow; infer_instance
def pPow {Γ : Gam} : Sl Γ → Sl Γ → Option (Sl Γ) := pI cPow fun i j => .int (i ^ j.toNat)
theorem pPow_ok {Γ : Gam} : Prim2 Γ (rI CPow fun i j => .int (i ^ j.toNat)) (pPow (Γ := Γ)) := pI_ok (fun i j h => ⟨h.1, Int.le_trans h.2.1 (by decide), h.2.2⟩) fun _ _ _ _ _ => .int _
def pNeg {Γ : Gam} (x : Sl Γ) : Option (Sl Γ) :=
  match x.view with
  | some (.int i) => some (di (-i))
  | _ => none
theorem pNeg_ok {Γ : Gam} : Prim1 Γ (rU fun i => .int (-i)) (pNeg (Γ := Γ)) := by
  intro M H x sx s Gx Q dom hp hx k
  unfold pNeg at hp
  split at hp
  · rename_i i e1
    cases hp
    cases hx.int e1
    exact ⟨i, rfl, k.dat (.int _)⟩
  · cases hp

def okD (d : D) : Bool := SeqAt.shaped d.toPy
def eqD (a b : D) : Bool := PyData.eqv a.toPy b.toPy
def pEqG {Γ : Gam} (g : Bool → Bool) (x y : Sl Γ) : Option (Sl Γ) :=
  match x.view, y.view with
  | some a, some b => if okD a && okD b then some (db (g (eqD a b))) else none
  | _, _ => none
theorem pEqG_ok {Γ : Gam} {g : Bool → Bool} {r : R2} (h : ∀ x y H Q d e, Dp Γ.K H x d → Dp Γ.K H y e → SeqAt.shaped d = true → SeqAt.shaped e = true → Q (V.bl (g (PyData.eqv d e))) H → r x y H Q) : Prim2 Γ r (pEqG g) := by
  intro M H x y sx sy s Gx Gy Q dom hp hx hy k
  unfold pEqG at hp
  split at hp
  · rename_i a b e1 e2
    split at hp
    · rename_i c
      cases hp
      rw [Bool.and_eq_true] at c
      exact h x y H Q a.toPy b.toPy (hx.dp e1 (SeqAt.canLay_of_shaped c.1)) (hy.dp e2 (SeqAt.canLay_of_shaped c.2)) c.1 c.2 (k.dat (.bl _))
    · cases hp
  · cases hp
def pEq {Γ : Gam} : Sl Γ → Sl Γ → Option (Sl Γ) := pEqG id
def pNe {Γ : Gam} : Sl Γ → Sl Γ → Option (Sl Γ) := pEqG not
theorem pEq_ok {Γ : Gam} : Prim2 Γ (rEqD Γ.K) (pEq (Γ := Γ)) := pEqG_ok fun x y H Q d e h1 h2 h3 h4 q => ⟨d, e, h1, h2, h3, h4, q⟩
theorem pNe_ok {Γ : Gam} : Prim2 Γ (rNeD Γ.K) (pNe (Γ := Γ)) := pEqG_ok fun x y H Q d e h1 h2 h3 h4 q => ⟨d, e, h1, h2, h3, h4, q⟩
/-- order of ints and of texts -/
def pOrd {Γ : Gam} (g : Int → Int → Bool) (t : Str → Str → Bool) (x y : Sl Γ) : Option (Sl Γ) :=
  match x.view, y.view with
  | some (.int i), some (.int j) => some (db (g i j))
  | some (.str a), some (.str b) => some (db (t a b))
  | _, _ => none
def rOrd (g : Int → Int → Bool) (t : Str → Str → Bool) : R2 := fun x y H Q => rI0 (fun i j => V.bl (g i j)) x y H Q ∨ ∃ i j, x = V.str i ∧ y = V.str j ∧ Q (V.bl (t i j)) H
theorem pOrd_ok {Γ : Gam} {g : Int → Int → Bool} {t : Str → Str → Bool} : Prim2 Γ (rOrd g t) (pOrd g t) := by
  intro M H x y sx sy s Gx Gy Q dom hp hx hy k
  unfold pOrd at hp
  split at hp
  · rename_i i j e1 e2
    cases hp
    cases hx.int e1; cases hy.int e2
    exact .inl ⟨i, j, rfl, rfl, k.dat (.bl _)⟩
  · rename_i i j e1 e2
    cases hp
    cases hx.str e1; cases hy.str e2
    exact .inr ⟨i, j, rfl, rfl, k.dat (.bl _)⟩
  · cases hp
def sLt (a b : Str) : Bool := decide (a.cps.toList < b.cps.toList)
def pLt {Γ : Gam} : Sl Γ → Sl Γ → Option (Sl Γ) := pOrd (fun i j => decide (i < j)) sLt
def pLe {Γ : Gam} : Sl Γ → Sl Γ → Option (Sl Γ) := pOrd (fun i j => decide (i ≤ j)) fun a b => !sLt b a
def pGt {Γ : Gam} : Sl Γ → Sl Γ → Option (Sl Γ) := pOrd (fun i j => decide (j < i)) fun a b => sLt b a
def pGe {Γ : Gam} : Sl Γ → Sl Γ → Option (Sl Γ) := pOrd (fun i j => decide (j ≤ i)) fun a b => !sLt a b
theorem op_ltO {X : Cx} : OpR X (compareOp .Lt) (rOrd (fun i j => decide (i < j)) sLt) := OpR.or op_lt op_lt_str
theorem op_gtO {X : Cx} : OpR X (compareOp .Gt) (rOrd (fun i j => decide (j < i)) fun a b => sLt b a) := OpR.or op_gt op_gt_str
theorem op_geO {X : Cx} : OpR X (compareOp .GtE) (rOrd (fun i j => decide (j ≤ i)) fun a b => !sLt a b) := OpR.or op_ge op_ge_str
end G

set_option maxHeartbeats 4000000
namespace G
open PySem L2

def isFlat : D → Bool
  | .non => true
  | .bl _ => true
  | .int _ => true
  | .str _ => true
  | _ => false
theorem Dat.flat {Γ : Gam} {M : Addr → Prop} {H : Hp} {v : V} {d : D} (h : Dat Γ M H v d) (f : isFlat d = true) : flatV v = true := by
  cases h <;> first | rfl | cases f
theorem eqV_eq {Γ : Gam} {M : Addr → Prop} {H : Hp} {v w : V} {d e : D} (h : Dat Γ M H v d) (h' : Dat Γ M H w e) (f : isFlat d = true) (f' : isFlat e = true) : eqV v w = eqD d e := by
  cases h <;> first | exact absurd f Bool.false_ne_true | skip
  all_goals (cases h' <;> first | exact absurd f' Bool.false_ne_true | (simp only [eqD, D.toPy, PyData.eqv, eqV]))
theorem Dats.flat {Γ : Gam} {M : Addr → Prop} {H : Hp} {v : V} {d : D} (h : Dat Γ M H v d) (f : isFlat d = true) : ∀ {vs : List V} {ds : List D}, Dats Γ M H vs ds → ds.all isFlat = true → vs.all flatV = true ∧ inV v vs = ds.any fun z => eqD z d
  | _, _, .nil, _ => ⟨rfl, rfl⟩
  | _, _, .cons q r, a => by
    rw [List.all_cons, Bool.and_eq_true] at a
    obtain ⟨i1, i2⟩ := Dats.flat h f r a.2
    refine ⟨by rw [List.all_cons, q.flat a.1, i1]; rfl, ?_⟩
    unfold inV at i2 ⊢
    rw [List.any_cons, List.any_cons, i2, eqV_eq q h a.1 f]
/-- one text within another -/
def sIn (a b : Str) : Bool :=
  match a.cps.toList with
  | [c] => decide (c ∈ b.cps.toList)
  | _ => !(Builtin.Str.occurrences b a 0 b.length 1).isEmpty
def pInG {Γ : Gam} (g : Bool → Bool) (x y : Sl Γ) : Option (Sl Γ) :=
  match x.view, y.view with
  | some a, some (.lst ds) => if okD a && okD (.lst ds) then some (db (g (ds.any fun z => eqD z a))) else none
  | some a, some (.tup ds) => if isFlat a && ds.all isFlat then some (db (g (ds.any fun z => eqD z a))) else none
  | some (.str a), some (.str b) => some (db (g (sIn a b)))
  | _, _ => none
def rInAll (K : PySem.W.Frag) (rD rF rC rS : R2) : R2 := fun x y H Q => rD x y H Q ∨ (rF x y H Q ∨ (rC x y H Q ∨ rS x y H Q))
def rCin (g : Bool → Bool) : R2 := fun x y H Q => ∃ (c : Nat) (z : Str), x = .str ⟨#[c]⟩ ∧ y = .str z ∧ Q (.bl (g (decide (c ∈ z.cps.toList)))) H
def rSin (g : Bool → Bool) : R2 := fun x y H Q => ∃ i j, x = V.str i ∧ y = V.str j ∧ Q (.bl (g (!(Builtin.Str.occurrences j i 0 j.length 1).isEmpty))) H
theorem toPys_any (ds : List D) (a : D) : (ds.any fun z => eqD z a) = (D.toPys ds).any fun z => PyData.eqv z a.toPy := by
  rw [toPys_map, List.any_map]
  rfl
theorem Sl.str_view {Γ : Gam} {M : Addr → Prop} {H : Hp} {v : V} {s : Sl Γ} {G' : Addr → Prop} {d : D} (h : SR Γ M H v s G') (e : s.view = some d) (f : isFlat d = true) : Dat Γ M H v d := by
  cases s with
  | dat d' => cases e; exact h.1
  | lst es => cases e; cases f
  | scr ns => cases e; cases f
  | _ => cases e
theorem pInG_ok {Γ : Gam} {g : Bool → Bool} {rD : R2} {neg : Bool} (hD : ∀ x y H Q d ds, Dp Γ.K H x d → Dp Γ.K H y (.list ds) → SeqAt.shaped d = true → SeqAt.shaped (.list ds) = true → Q (V.bl (g (ds.any fun z => PyData.eqv z d))) H → rD x y H Q)
    (hF : ∀ b, g b = if neg then !b else b) : Prim2 Γ (rInAll Γ.K rD (rIn Γ.K neg) (rCin g) (rSin g)) (pInG g) := by
  intro M H x y sx sy s Gx Gy Q dom hp hx hy k
  unfold pInG at hp
  split at hp
  · rename_i a ds e1 e2
    split at hp
    · rename_i c
      cases hp
      rw [Bool.and_eq_true] at c
      have h2 := hy.dp e2 (SeqAt.canLay_of_shaped c.2)
      have c2 := c.2
      unfold okD at c2
      unfold D.toPy at h2 c2
      refine .inl (hD x y H Q a.toPy (D.toPys ds) (hx.dp e1 (SeqAt.canLay_of_shaped c.1)) h2 c.1 c2 ?_)
      rw [← toPys_any]
      exact k.dat (.bl _)
    · cases hp
  · rename_i a ds e1 e2
    split at hp
    · rename_i c
      cases hp
      rw [Bool.and_eq_true] at c
      obtain ⟨p, vs, rfl, hq, r⟩ := hy.tuple e2
      have hd := Sl.str_view hx e1 c.1
      obtain ⟨f1, f2⟩ := Dats.flat hd c.1 r c.2
      refine .inr (.inl ⟨p, vs, rfl, .inr hq.sq, hd.flat c.1, f1, ?_⟩)
      rw [f2, ← hF]
      exact k.dat (.bl _)
    · cases hp
  · rename_i a b e1 e2
    cases hp
    cases hx.str e1; cases hy.str e2
    unfold sIn at k
    split at k
    · rename_i c ec
      have ea : a = ⟨#[c]⟩ := by
        cases a with
        | mk cs =>
          cases cs with
          | mk l => cases ec; rfl
      subst ea
      exact .inr (.inr (.inl ⟨c, b, rfl, rfl, k.dat (.bl _)⟩))
    · exact .inr (.inr (.inr ⟨a, b, rfl, rfl, k.dat (.bl _)⟩))
  · cases hp
def pIn {Γ : Gam} : Sl Γ → Sl Γ → Option (Sl Γ) := pInG id
def pNotIn {Γ : Gam} : Sl Γ → Sl Γ → Option (Sl Γ) := pInG not
theorem pIn_ok {Γ : Gam} : Prim2 Γ (rInAll Γ.K (rInD Γ.K) (rIn Γ.K false) (rCin id) (rSin id)) (pIn (Γ := Γ)) := pInG_ok (fun x y H Q d ds h1 h2 h3 h4 q => ⟨d, ds, h1, h2, h3, h4, q⟩) fun b => rfl
theorem pNotIn_ok {Γ : Gam} : Prim2 Γ (rInAll Γ.K (rNotInD Γ.K) (rIn Γ.K true) (rCin not) (rSin not)) (pNotIn (Γ := Γ)) := pInG_ok (fun x y H Q d ds h1 h2 h3 h4 q => ⟨d, ds, h1, h2, h3, h4, q⟩) fun b => rfl
theorem op_inAll {X : Cx} (hu : X.A.units + 65 < cLine) : OpR X (compareOp .In) (rInAll X.K (rInD X.K) (rIn X.K false) (rCin id) (rSin id)) := OpR.or (op_inD hu) (OpR.or op_in_seq (OpR.or op_in_sign op_in_str))
theorem op_notInAll {X : Cx} (hu : X.A.units + 65 < cLine) : OpR X (compareOp .NotIn) (rInAll X.K (rNotInD X.K) (rIn X.K true) (rCin not) (rSin not)) := OpR.or (op_notInD hu) (OpR.or op_notIn_seq (OpR.or op_notIn_sign op_notin_str))

theorem Dats.atI {Γ : Gam} {M : Addr → Prop} {H : Hp} {vs : List V} {ds : List D} {i : Int} {d : D} (r : Dats Γ M H vs ds) (h : atI ds i = some d) : ∃ v, L2.atI vs i = some v ∧ Dat Γ M H v d := by
  unfold L2.atI at h ⊢
  rw [r.length]
  cases e : ixN ds.length i with
  | none => rw [e] at h; cases h
  | some j =>
    rw [e] at h
    exact r.get h
def pIx {Γ : Gam} (x y : Sl Γ) : Option (Sl Γ) :=
  match x.view, y.view with
  | some (.lst ds), some (.int i) => (atI ds i).map .dat
  | some (.tup ds), some (.int i) => (atI ds i).map .dat
  | some (.str z), some (.int i) => if z.length ≤ sizeLine then (atI z.cps.toList i).map fun c => .dat (.str ⟨#[c]⟩) else none
  | _, _ => none
theorem pIx_ok {Γ : Gam} : Prim2 Γ (rIx Γ.K) (pIx (Γ := Γ)) := by
  intro M H x y sx sy s Gx Gy Q dom hp hx hy k
  unfold pIx at hp
  split at hp
  · rename_i ds i e1 e2
    cases e : atI ds i with
    | none => rw [e] at hp; cases hp
    | some d =>
      rw [e] at hp
      cases hp
      cases hy.int e2
      obtain ⟨p, vs, rfl, hq, r⟩ := hx.list e1
      obtain ⟨v, h1, h2⟩ := r.atI e
      exact .inl ⟨p, vs, i, v, rfl, rfl, hq, h1, k.dat h2⟩
  · rename_i ds i e1 e2
    cases e : atI ds i with
    | none => rw [e] at hp; cases hp
    | some d =>
      rw [e] at hp
      cases hp
      cases hy.int e2
      obtain ⟨p, vs, rfl, hq, r⟩ := hx.tuple e1
      obtain ⟨v, h1, h2⟩ := r.atI e
      exact .inr (.inl ⟨p, vs, i, v, rfl, rfl, hq.sq, h1, k.dat h2⟩)
  · rename_i z i e1 e2
    split at hp
    · rename_i hl
      cases e : atI z.cps.toList i with
      | none => rw [e] at hp; cases hp
      | some c =>
        rw [e] at hp
        cases hp
        cases hx.str e1; cases hy.int e2
        exact .inr (.inr ⟨z, i, c, rfl, rfl, hl, e, k.dat (.str _)⟩)
    · cases hp
  · cases hp

def cutD (xs : List D) (lo hi : Option Int) : List D := (xs.drop (HT.sIx xs.length 0 lo)).take (HT.sIx xs.length xs.length hi - HT.sIx xs.length 0 lo)
theorem Dats.cut {Γ : Gam} {M : Addr → Prop} {H : Hp} {vs : List V} {ds : List D} (r : Dats Γ M H vs ds) (lo hi : Option Int) : Dats Γ M H (cutV vs lo hi) (cutD ds lo hi) := by
  unfold cutV cutD
  rw [r.length]
  exact (r.drop _).take _
def pRev {Γ : Gam} (x : Sl Γ) : Option (Sl Γ) :=
  match x.view with
  | some (.lst ds) => some (.lst ds.reverse)
  | _ => none
theorem pRev_ok {Γ : Gam} : Prim1 Γ (fun x H Q => ∃ a xs, x = .ref a ∧ SqL Γ.K H a xs ∧ ∀ p, H p = none → Q (.ref p) (upd H p (.lst xs.reverse))) (pRev (Γ := Γ)) := by
  intro M H x sx s Gx Q dom hp hx k
  unfold pRev at hp
  split at hp
  · rename_i ds e1
    cases hp
    obtain ⟨p, vs, rfl, hq, r⟩ := hx.list e1
    exact ⟨p, vs, rfl, hq, fun q hq => k.lst r.reverse hq⟩
  · cases hp
end G

set_option maxHeartbeats 4000000
namespace G
open PySem L2

section
variable {Γ : Gam} {X : Cx} {w : Wd} {σ : St} {env env' : Env Γ} {a b c e : Expr} {fa fb fc : AE Γ} {pos : Pos}

def mVar {Γ : Gam} (i : Nat) : Ev Γ := fun env =>
  match env[i]? with
  | some (.dat d) => some (.dat d, env)
  | some (.scr ns) => some (.scr ns, env)
  | some (.lst ds) => some (.dat (.lst ds), env.set i (.dat (.lst ds)))
  | _ => none
theorem SR.to {M M' : Addr → Prop} {H : Hp} {v : V} {s : Sl Γ} {F F' : Addr → Prop} (h : SR Γ M H v s F) (g : Go M H M' H) (e : F' = F) : SR Γ M' H v s F' := by
  subst e
  exact h.go g fun _ _ _ q => q
/-- slot i lets go of what it owns: nobody will change it any more -/
theorem ER.freeze (E : ER Γ w σ env) {i : Nat} {ds : List D} (h : env[i]? = some (.lst ds)) :
    ∃ w', w'.H = w.H ∧ ER Γ w' σ (env.set i (.dat (.lst ds))) ∧ Step w w' ∧ ∃ v, σ[i]? = some (some v) ∧ Dat Γ w'.M w'.H v (.lst ds) := by
  obtain ⟨v, ev, p, vs, rfl, hp, r, n⟩ := E.at (i := i) (s := .lst ds) (by rw [h]; rfl)
  have il : i < env.length := (List.getElem?_eq_some_iff.mp h).1
  have g : Go w.M w.H (fun a => w.M a ∧ ¬ w.F i a) w.H := ⟨fun _ _ _ q => q, fun _ n _ z => n z.1⟩
  have dv : Dat Γ (fun a => w.M a ∧ ¬ w.F i a) w.H (.ref p) (.lst ds) := .lst (fun z => z.2 ((n p).mpr rfl)) hp (r.go g)
  refine ⟨⟨fun a => w.M a ∧ ¬ w.F i a, fun j a => w.F j a ∧ j ≠ i, w.H⟩, rfl, ⟨?_, fun j s hj => ?_, fun j a f => ?_, fun j k a f f' => E.dis j k a f.1 f'.1, fun a m => E.dom a m.1, fun j hj a f => ?_⟩, ⟨fun _ _ _ q => q, fun a h m => ⟨m, h i⟩, fun a m => .inl m.1, fun j a f => .inl ⟨j, f.1⟩, fun _ q => q⟩, _, ev, dv⟩
  · rw [List.length_set]; exact E.len
  · by_cases hji : j = i
    · subst hji
      rw [List.getElem?_set_self il] at hj
      cases hj
      exact .inr ⟨_, ev, dv, fun a z => z.2 rfl⟩
    · rw [List.getElem?_set_ne (Ne.symm hji)] at hj
      have ef : (fun a => w.F j a ∧ j ≠ i) = w.F j := by funext a; exact propext ⟨fun z => z.1, fun z => ⟨z, hji⟩⟩
      rcases E.slot j s hj with ⟨z1, z2⟩ | ⟨u, eu, ru⟩
      · exact .inl ⟨z1, fun a f => z2 a f.1⟩
      · exact .inr ⟨u, eu, ru.to g ef⟩
  · exact ⟨E.sub j a f.1, fun z => f.2 (E.dis j i a f.1 z)⟩
  · rw [List.length_set] at hj
    exact E.out j hj a f.1
theorem sd_var (i : Nat) {x : Str} (hN : X.N[i]? = some x := by rfl) (hv : Vis X.env.scope x := by first | exact Or.inl rfl | exact Or.inr (Or.inl rfl) | exact Or.inr (Or.inr rfl)) (hd : (x == ("__debug__" : Str)) = false := by decide) (hcd : (x == ("__classdict__" : Str)) = false := by decide) :
    SdE Γ X (.Name x pos) (mVar i) := by
  refine ⟨?_⟩
  intro hK σ env r env' w Q he E k
  refine wE.of (pe_var hN hv hd hcd) ?_
  unfold mVar at he
  split at he
  · rename_i d g
    cases he
    obtain ⟨v, ev, rv⟩ := E.at (i := i) (s := .dat d) (by rw [g]; rfl)
    exact ⟨v, ev, k v w (fun _ => False) E ⟨⟨rv.1, fun _ z => z⟩, fun _ z => z.elim, fun _ _ z => z.elim⟩ (Step.refl w) fun _ z => z.elim⟩
  · rename_i d g
    cases he
    obtain ⟨v, ev, rv⟩ := E.at (i := i) (s := .scr d) (by rw [g]; rfl)
    exact ⟨v, ev, k v w (fun _ => False) E ⟨⟨rv.1, fun _ z => z⟩, fun _ z => z.elim, fun _ _ z => z.elim⟩ (Step.refl w) fun _ z => z.elim⟩
  · rename_i ds g
    cases he
    obtain ⟨w', eH, E', st, v, ev, dv⟩ := E.freeze g
    refine ⟨v, ev, ?_⟩
    rw [← eH]
    exact k v w' (fun _ => False) E' ⟨⟨dv, fun _ z => z⟩, fun _ z => z.elim, fun _ _ z => z.elim⟩ st fun _ z => z.elim
  · cases he
theorem sda_var (i : Nat) {x : Str} (hN : X.N[i]? = some x := by rfl) (hv : Vis X.env.scope x := by first | exact Or.inl rfl | exact Or.inr (Or.inl rfl) | exact Or.inr (Or.inr rfl)) (hd : (x == ("__debug__" : Str)) = false := by decide) (hcd : (x == ("__classdict__" : Str)) = false := by decide) :
    SdA Γ X (.Name x pos) (.brw i) := fun σ H Q v e q => wE.of (pe_var hN hv hd hcd) ⟨v, e, q⟩
theorem sda_ex {f : Ev Γ} (h : SdE Γ X e f) : SdA Γ X e (.ex f) := h
/-- a fresh list is let go of -/
def mFrz {Γ : Gam} (f : Ev Γ) : Ev Γ := fun env =>
  match f env with
  | some (.dat d, env') => some (.dat d, env')
  | some (.lst ds, env') => some (.dat (.lst ds), env')
  | _ => none
theorem sd_frz {f : Ev Γ} (h : SdE Γ X e f) : SdE Γ X e (mFrz f) := by
  refine ⟨?_⟩
  intro hK σ env r env' w Q he E k
  unfold mFrz at he
  split at he
  · rename_i d env1 g
    cases he
    exact h hK σ env _ _ w Q g E k
  · rename_i ds env1 g
    cases he
    refine h hK σ env _ _ w Q g E fun v w1 Fr E1 T1 p1 f1 => ?_
    obtain ⟨p, vs, rfl, hp, r, n⟩ := T1.rep
    have go : Go w1.M w1.H (fun a => w1.M a ∧ ¬ Fr a) w1.H := ⟨fun _ _ _ q => q, fun _ n _ z => n z.1⟩
    have st : Step w ⟨fun a => w1.M a ∧ ¬ Fr a, w1.F, w1.H⟩ := ⟨p1.keep, fun a hF m => ⟨p1.mu a hF m, fun z => (f1 a z).elim (fun ⟨i, q⟩ => hF i q) fun q => E.dom a m q⟩, fun a m => p1.src a m.1, p1.own, p1.live⟩
    have E2 : ER Γ ⟨fun a => w1.M a ∧ ¬ Fr a, w1.F, w1.H⟩ σ env' := by
      refine ⟨E1.len, fun j s hj => ?_, fun j a f => ⟨E1.sub j a f, fun z => T1.off a j z f⟩, E1.dis, fun a m => E1.dom a m.1, E1.out⟩
      rcases E1.slot j s hj with z | ⟨u, eu, ru⟩
      · exact .inl z
      · exact .inr ⟨u, eu, ru.to go rfl⟩
    exact k (.ref p) ⟨fun a => w1.M a ∧ ¬ Fr a, w1.F, w1.H⟩ (fun _ => False) E2 ⟨⟨.lst (fun z => z.2 ((n p).mpr rfl)) hp (r.go go), fun _ z => z⟩, fun _ z => z.elim, fun _ _ z => z.elim⟩ st fun _ z => z.elim
  · cases he

def mC {Γ : Gam} (d : D) : Ev Γ := fun env => some (.dat d, env)
theorem sd_c {v : V} {d : D} (h : PE X e (tC v)) (hd : ∀ M H, Dat Γ M H v d) : SdE Γ X e (mC d) := by
  refine ⟨?_⟩
  intro hK σ env r env' w Q he E k
  cases he
  exact wE.of h (k v w (fun _ => False) E ⟨⟨hd _ _, fun _ z => z⟩, fun _ z => z.elim, fun _ _ z => z.elim⟩ (Step.refl w) fun _ z => z.elim)
theorem sd_int {i j} : SdE Γ X (.Constant (.int i) j pos) (mC (.int i)) := sd_c pe_int fun _ _ => .int _
theorem sd_bl {b j} : SdE Γ X (.Constant (.bool b) j pos) (mC (.bl b)) := sd_c pe_bl fun _ _ => .bl _
theorem sd_bin {op : Operator} {r : R2} {p : Sl Γ → Sl Γ → Option (Sl Γ)} (ho : Gd Γ X → OpR X (binaryOp op) r) (hp : Prim2 Γ r p) (ha : SdA Γ X a fa) (hb : SdA Γ X b fb) : SdE Γ X (.BinOp a op b pos) (m2 p fa fb) :=
  .mk fun hK σ env r env' w Q he E k => wE.of (pe_op (ho hK) pe_wE pe_wE) (run2 hp ha hb hK he E k)
theorem sd_add (ha : SdA Γ X a fa) (hb : SdA Γ X b fb) : SdE Γ X (.BinOp a .Add b pos) (m2 pAdd fa fb) := sd_bin (fun g => by rw [g.k]; exact op_addAll) pAdd_ok ha hb
theorem sd_sub (ha : SdA Γ X a fa) (hb : SdA Γ X b fb) : SdE Γ X (.BinOp a .Sub b pos) (m2 pSub fa fb) := sd_bin (fun g => op_sub) pSub_ok ha hb
theorem sd_mul (ha : SdA Γ X a fa) (hb : SdA Γ X b fb) : SdE Γ X (.BinOp a .Mult b pos) (m2 pMul fa fb) := sd_bin (fun g => op_mul) pMul_ok ha hb
theorem sd_div (ha : SdA Γ X a fa) (hb : SdA Γ X b fb) : SdE Γ X (.BinOp a .FloorDiv b pos) (m2 pDiv fa fb) := sd_bin (fun g => op_fdivW) pDiv_ok ha hb
theorem sd_mod (ha : SdA Γ X a fa) (hb : SdA Γ X b fb) : SdE Γ X (.BinOp a .Mod b pos) (m2 pMod fa fb) := sd_bin (fun g => op_mod) pMod_ok ha hb
theorem sd_pow (ha : SdA Γ X a fa) (hb : SdA Γ X b fb) : SdE Γ X (.BinOp a .Pow b pos) (m2 pPow fa fb) := sd_bin (fun g => op_pow) pPow_ok ha hb
theorem sd_neg (ha : SdA Γ X a fa) : SdE Γ X (.UnaryOp .USub a pos) (m1 pNeg fa) := .mk fun hK σ env r env' w Q he E k => wE.of (pe_un un_neg pe_wE) (run1 pNeg_ok ha hK he E k)
theorem sd_cmpG {op : CmpOp} {r : R2} {p : Sl Γ → Sl Γ → Option (Sl Γ)} (ho : Gd Γ X → OpR X (compareOp op) r) (hp : Prim2 Γ r p) (hm : behindInMarks op b = false) (ha : SdA Γ X a fa) (hb : SdA Γ X b fb) : SdE Γ X (.Compare a [op] [b] pos) (m2 p fa fb) :=
  .mk fun hK σ env r env' w Q he E k => wE.of (pe_cmpR (ho hK) pe_wE pe_wE hm) (run2 hp ha hb hK he E k)
/-- a value as a test -/
def toT {Γ : Gam} (f : Ev Γ) : Et Γ := fun env =>
  match f env with
  | some (.dat (.bl b), env') => some (b, env')
  | _ => none
theorem toT_some {f : Ev Γ} {b : Bool} (h : toT f env = some (b, env')) : f env = some (.dat (.bl b), env') := by
  unfold toT at h
  split at h
  · rename_i b1 env1 g
    cases h
    exact g
  · cases h
theorem TR.bl {w : Wd} {v : V} {b : Bool} {Fr : Addr → Prop} (t : TR Γ w v (.dat (.bl b)) Fr) : v = .bl b := t.rep.bl rfl
theorem sdt_cmpG {op : CmpOp} {r : R2} {p : Sl Γ → Sl Γ → Option (Sl Γ)} (ho : Gd Γ X → OpR X (compareOp op) r) (hp : Prim2 Γ r p) (hm : behindInMarks op b = false) (ha : SdA Γ X a fa) (hb : SdA Γ X b fb) : SdT Γ X (.Compare a [op] [b] pos) (toT (m2 p fa fb)) :=
  .mk fun hK σ env r env' w Q he E k => wT.of (pt_cmpR (ho hK) pe_wE pe_wE hm) (run2 hp ha hb hK (toT_some he) E fun v w' Fr E' T p' f => ⟨r, T.bl, k w' E' p'⟩)
/-- the comparisons: operator, its rule, its reading -/
structure Cmp (Γ : Gam) (X : Cx) (op : CmpOp) (p : Sl Γ → Sl Γ → Option (Sl Γ)) : Prop where
  ex : ∃ r, (Gd Γ X → OpR X (compareOp op) r) ∧ Prim2 Γ r p
theorem c_eq : Cmp Γ X .Eq pEq := ⟨_, fun g => by rw [g.k]; exact op_eqD (Nat.lt_trans (Nat.lt_succ_self _) g.un), pEq_ok⟩
theorem c_ne : Cmp Γ X .NotEq pNe := ⟨_, fun g => by rw [g.k]; exact op_neD (Nat.lt_trans (Nat.lt_succ_self _) g.un), pNe_ok⟩
theorem c_lt : Cmp Γ X .Lt pLt := ⟨_, fun _ => op_ltO, pOrd_ok⟩
theorem c_gt : Cmp Γ X .Gt pGt := ⟨_, fun _ => op_gtO, pOrd_ok⟩
theorem c_ge : Cmp Γ X .GtE pGe := ⟨_, fun _ => op_geO, pOrd_ok⟩
theorem c_in : Cmp Γ X .In pIn := ⟨_, fun g => by rw [g.k]; exact op_inAll g.un, pIn_ok⟩
theorem c_ni : Cmp Γ X .NotIn pNotIn := ⟨_, fun g => by rw [g.k]; exact op_notInAll g.un, pNotIn_ok⟩
theorem sd_cmp {op : CmpOp} {p : Sl Γ → Sl Γ → Option (Sl Γ)} (h : Cmp Γ X op p) (ha : SdA Γ X a fa) (hb : SdA Γ X b fb) (hm : behindInMarks op b = false := by first | exact nobehind _ (by decide) (by decide) | rfl) : SdE Γ X (.Compare a [op] [b] pos) (m2 p fa fb) := by
  obtain ⟨r, h1, h2⟩ := h
  exact sd_cmpG h1 h2 hm ha hb
theorem sdt_cmp {op : CmpOp} {p : Sl Γ → Sl Γ → Option (Sl Γ)} (h : Cmp Γ X op p) (ha : SdA Γ X a fa) (hb : SdA Γ X b fb) (hm : behindInMarks op b = false := by first | exact nobehind _ (by decide) (by decide) | rfl) : SdT Γ X (.Compare a [op] [b] pos) (toT (m2 p fa fb)) := by
  obtain ⟨r, h1, h2⟩ := h
  exact sdt_cmpG h1 h2 hm ha hb
theorem sd_ix (ha : SdA Γ X a fa) (hb : SdA Γ X b fb) (hs : PlainIx b := by exact fun _ _ => rfl) : SdE Γ X (.Subscript a b pos) (m2 pIx fa fb) :=
  .mk fun hK σ env r env' w Q he E k => wE.of (pe_ix (by rw [hK.k]; exact ix_seq) pe_wE pe_wE hs) (run2 pIx_ok ha hb hK he E k)
theorem sd_rev {k : Nat} {p1 p2 p3 : Pos} (ha : SdA Γ X a fa) : SdE Γ X (.Subscript a (.Slice none none (some (.UnaryOp .USub (.Constant (.int 1) k p1) p2)) p3) pos) (m1 pRev fa) :=
  .mk fun hK σ env r env' w Q he E k => wE.of (pe_revL pe_wE) (by unfold tRevL; rw [← hK.k]; exact run1 pRev_ok ha hK he E k)
end
end G

set_option maxHeartbeats 4000000
namespace G
open PySem L2

def truth {Γ : Gam} (s : Sl Γ) : Option Bool :=
  match s.view with
  | some .non => some false
  | some (.bl b) => some b
  | some (.int i) => some (i != 0)
  | some (.str z) => if z.length ≤ sizeLine then some ((z.length : Int) != 0) else none
  | some (.lst ds) => some (!ds.isEmpty)
  | some (.tup ds) => some (!ds.isEmpty)
  | _ => none
theorem Dats.empty {Γ : Gam} {M : Addr → Prop} {H : Hp} {vs : List V} {ds : List D} (r : Dats Γ M H vs ds) : vs.isEmpty = ds.isEmpty := by cases r <;> rfl
theorem truth_ok {Γ : Gam} {M : Addr → Prop} {H : Hp} {v : V} {s : Sl Γ} {G' : Addr → Prop} {b : Bool} (h : SR Γ M H v s G') (e : truth s = some b) : TruV Γ.K v H b := by
  unfold truth at e
  split at e
  · rename_i g; cases e; cases h.non g; rfl
  · rename_i g; cases e; cases h.bl g; rfl
  · rename_i g; cases e; cases h.int g; rfl
  · rename_i z g
    split at e
    · rename_i hl; cases e; cases h.str g; exact ⟨hl, rfl⟩
    · cases e
  · rename_i ds g
    cases e
    obtain ⟨p, vs, rfl, hq, r⟩ := h.list g
    exact .inl ⟨vs, hq, by rw [r.empty]⟩
  · rename_i ds g
    cases e
    obtain ⟨p, vs, rfl, hq, r⟩ := h.tuple g
    exact .inr (.inl ⟨vs, hq.sq, by rw [r.empty]⟩)
  · cases e
/-- a value's truth -/
def mT {Γ : Gam} (a : AE Γ) : Et Γ := fun env =>
  match evA a env with
  | none => none
  | some (x, env1) => match peek x env1 with
    | none => none
    | some s => (truth s).map fun b => (b, env1)
def mAndV {Γ : Gam} (f g : Ev Γ) : Ev Γ := fun env =>
  match f env with
  | none => none
  | some (s, env1) => match truth s with
    | some true => g env1
    | some false => some (s, env1)
    | none => none
def mOrV {Γ : Gam} (f g : Ev Γ) : Ev Γ := fun env =>
  match f env with
  | none => none
  | some (s, env1) => match truth s with
    | some true => some (s, env1)
    | some false => g env1
    | none => none
def mNotV {Γ : Gam} (f : Et Γ) : Ev Γ := fun env => (f env).map fun p => (.dat (.bl (!p.1)), p.2)
def mNotT {Γ : Gam} (f : Et Γ) : Et Γ := fun env => (f env).map fun p => (!p.1, p.2)
def mAndT {Γ : Gam} (f g : Et Γ) : Et Γ := fun env =>
  match f env with
  | none => none
  | some (true, env1) => g env1
  | some (false, env1) => some (false, env1)
def mOrT {Γ : Gam} (f g : Et Γ) : Et Γ := fun env =>
  match f env with
  | none => none
  | some (true, env1) => some (true, env1)
  | some (false, env1) => g env1
def mIf {Γ : Gam} (c : Et Γ) (f g : Ev Γ) : Ev Γ := fun env =>
  match c env with
  | none => none
  | some (true, env1) => f env1
  | some (false, env1) => g env1
section
variable {Γ : Gam} {X : Cx} {a b c e : Expr} {rest : List Expr} {fa fb fc : AE Γ} {f g : Ev Γ} {tf tg tc : Et Γ} {pos : Pos}
structure SdW (Γ : Gam) (X : Cx) (e : Expr) (f : Et Γ) : Prop where
  run : Gd Γ X → ∀ (σ : St) (env : Env Γ) (b : Bool) (env' : Env Γ) (w : Wd) (Q : Bool → Hp → Prop), f env = some (b, env') → ER Γ w σ env → (∀ w', ER Γ w' σ env' → Step w w' → Q b w'.H) → wW X e σ w.H Q
instance {Γ : Gam} {X : Cx} {e : Expr} {f : Et Γ} : CoeFun (SdW Γ X e f) (fun _ => Gd Γ X → ∀ (σ : St) (env : Env Γ) (b : Bool) (env' : Env Γ) (w : Wd) (Q : Bool → Hp → Prop), f env = some (b, env') → ER Γ w σ env → (∀ w', ER Γ w' σ env' → Step w w' → Q b w'.H) → wW X e σ w.H Q) := ⟨SdW.run⟩
theorem SdW.t (h : SdW Γ X e tf) : SdT Γ X e tf := .mk fun hK σ env b env' w Q he E k => wT.of (PW.pt pw_wW) (h hK σ env b env' w Q he E k)
theorem sdt_tru (ha : SdA Γ X a fa) (hs : ∀ whole, isTrue a X.env whole = (do let v ← whole; standAt a.pos; holding [v] (truthy v)) := by intro _; rfl) : SdT Γ X a (mT fa) := by
  refine ⟨?_⟩
  intro hK σ env b env' w Q he E k
  refine wT.of (pt_truth pe_wE hs) ?_
  unfold mT at he
  cases g1 : evA fa env with
  | none => simp only [g1] at he; cases he
  | some q =>
    obtain ⟨x, env1⟩ := q
    simp only [g1] at he
    cases g2 : peek x env1 with
    | none => simp only [g2] at he; cases he
    | some s =>
      simp only [g2] at he
      cases g3 : truth s with
      | none => simp only [g3] at he; cases he
      | some b1 =>
        simp only [g3, Option.map_some] at he
        cases he
        refine sda_run ha hK g1 E fun v w1 Fr E1 A1 p1 f1 => ?_
        obtain ⟨G1, r1⟩ := A1.peek E1 g2
        exact ⟨b, by rw [← hK.k]; exact truth_ok r1 g3, k w1 E1 p1⟩
theorem sdt_not (h : SdT Γ X a tf) : SdT Γ X (.UnaryOp .Not a pos) (mNotT tf) := by
  refine ⟨?_⟩
  intro hK σ env b env' w Q he E k
  refine wT.of (pt_not pt_wT) ?_
  unfold mNotT at he
  cases g1 : tf env with
  | none => rw [g1] at he; cases he
  | some q =>
    rw [g1] at he
    cases he
    exact h hK σ env _ _ w _ g1 E k
/-- not e as a value -/
def mNotE {Γ : Gam} (f : Ev Γ) : Ev Γ := fun env =>
  match f env with
  | none => none
  | some (s, env1) => (truth s).map fun b => (.dat (.bl (!b)), env1)
theorem sdw_and1 (h : SdT Γ X a tf) : SdW Γ X (.BoolOp .And [a] pos) tf := .mk fun hK σ env b env' w Q he E k => wW.of (pw_and1 pt_wT) (h hK σ env b env' w Q he E k)
theorem sdw_or1 (h : SdT Γ X a tf) : SdW Γ X (.BoolOp .Or [a] pos) tf := .mk fun hK σ env b env' w Q he E k => wW.of (pw_or1 pt_wT) (h hK σ env b env' w Q he E k)
theorem sdw_and (h : SdT Γ X a tf) (h' : SdW Γ X (.BoolOp .And (b :: rest) pos) tg) : SdW Γ X (.BoolOp .And (a :: b :: rest) pos) (mAndT tf tg) := by
  refine ⟨?_⟩
  intro hK σ env r env' w Q he E k
  refine wW.of (pw_and pt_wT pw_wW) ?_
  unfold mAndT at he
  split at he
  · cases he
  · rename_i env1 g1
    refine h hK σ env _ _ w _ g1 E fun w1 E1 p1 => ?_
    rw [if_pos rfl]
    exact h' hK σ env1 r env' w1 Q he E1 fun w2 E2 p2 => k w2 E2 (p1.trans p2 E.dom)
  · rename_i env1 g1
    cases he
    refine h hK σ env _ _ w _ g1 E fun w1 E1 p1 => ?_
    rw [if_neg Bool.false_ne_true]
    exact k w1 E1 p1
theorem sdw_or (h : SdT Γ X a tf) (h' : SdW Γ X (.BoolOp .Or (b :: rest) pos) tg) : SdW Γ X (.BoolOp .Or (a :: b :: rest) pos) (mOrT tf tg) := by
  refine ⟨?_⟩
  intro hK σ env r env' w Q he E k
  refine wW.of (pw_or pt_wT pw_wW) ?_
  unfold mOrT at he
  split at he
  · cases he
  · rename_i env1 g1
    cases he
    refine h hK σ env _ _ w _ g1 E fun w1 E1 p1 => ?_
    rw [if_pos rfl]
    exact k w1 E1 p1
  · rename_i env1 g1
    refine h hK σ env _ _ w _ g1 E fun w1 E1 p1 => ?_
    rw [if_neg Bool.false_ne_true]
    exact h' hK σ env1 r env' w1 Q he E1 fun w2 E2 p2 => k w2 E2 (p1.trans p2 E.dom)
theorem sd_one {op} (h : SdE Γ X a f) : SdE Γ X (.BoolOp op [a] pos) f := .mk fun hK σ env r env' w Q he E k => wE.of (pe_one pe_wE) (h hK σ env r env' w Q he E k)
theorem sd_and (h : SdE Γ X a f) (h' : SdE Γ X (.BoolOp .And (b :: rest) pos) g) : SdE Γ X (.BoolOp .And (a :: b :: rest) pos) (mAndV f g) := by
  refine ⟨?_⟩
  intro hK σ env r env' w Q he E k
  refine wE.of (pe_andT pe_wE pe_wE) ?_
  unfold mAndV at he
  cases g1 : f env with
  | none => simp only [g1] at he; cases he
  | some q =>
    obtain ⟨s, env1⟩ := q
    simp only [g1] at he
    refine h hK σ env _ _ w _ g1 E fun v w1 Fr E1 T1 p1 f1 => ?_
    split at he
    · rename_i g2
      refine ⟨true, by rw [← hK.k]; exact truth_ok T1.rep g2, ?_⟩
      rw [if_pos rfl]
      exact h' hK σ env1 r env' w1 Q he E1 fun v2 w2 Fr2 E2 T2 p2 f2 => k v2 w2 Fr2 E2 T2 (p1.trans p2 E.dom) (f2.back p1)
    · rename_i g2
      cases he
      refine ⟨false, by rw [← hK.k]; exact truth_ok T1.rep g2, ?_⟩
      rw [if_neg Bool.false_ne_true]
      exact k v w1 Fr E1 T1 p1 f1
    · cases he
theorem sd_if (hc : SdT Γ X c tc) (ha : SdE Γ X a f) (hb : SdE Γ X b g) : SdE Γ X (.IfExp c a b pos) (mIf tc f g) := by
  refine ⟨?_⟩
  intro hK σ env r env' w Q he E k
  refine wE.of (pe_ifExp pt_wT pe_wE pe_wE) ?_
  unfold mIf at he
  split at he
  · cases he
  · rename_i env1 g1
    refine hc hK σ env _ _ w _ g1 E fun w1 E1 p1 => ?_
    rw [if_pos rfl]
    exact ha hK σ env1 r env' w1 Q he E1 fun v2 w2 Fr2 E2 T2 p2 f2 => k v2 w2 Fr2 E2 T2 (p1.trans p2 E.dom) (f2.back p1)
  · rename_i env1 g1
    refine hc hK σ env _ _ w _ g1 E fun w1 E1 p1 => ?_
    rw [if_neg Bool.false_ne_true]
    exact hb hK σ env1 r env' w1 Q he E1 fun v2 w2 Fr2 E2 T2 p2 f2 => k v2 w2 Fr2 E2 T2 (p1.trans p2 E.dom) (f2.back p1)
end
end G

set_option maxHeartbeats 4000000
namespace G
open PySem L2

def allDat {Γ : Gam} : List (Sl Γ) → Option (List D)
  | [] => some []
  | .dat d :: r => (allDat r).map (d :: ·)
  | _ => none
theorem allDat_ok {Γ : Gam} {M : Addr → Prop} {H : Hp} : ∀ {vs : List V} {ss : List (Sl Γ)} {ds : List D}, SRs Γ M H vs ss → allDat ss = some ds → Dats Γ M H vs ds
  | _, _, _, .nil, e => by cases e; exact .nil
  | _, _, _, .cons (s := s) (ss := ss) h r, e => by
    cases s with
    | dat d =>
      unfold allDat at e
      cases g : allDat ss with
      | none => rw [g] at e; cases e
      | some es =>
        rw [g] at e
        cases e
        exact .cons h.1 (allDat_ok r g)
    | _ => cases e
def pTupN {Γ : Gam} (ss : List (Sl Γ)) : Option (Sl Γ) :=
  match allDat ss with
  | some ds => if ds.length ≤ sizeLine then some (.dat (.tup ds)) else none
  | none => none
def pLstN {Γ : Gam} (ss : List (Sl Γ)) : Option (Sl Γ) :=
  match allDat ss with
  | some ds => if ds.length ≤ sizeLine then some (.lst ds) else none
  | none => none
theorem pTupN_ok {Γ : Gam} : PrimN Γ (fun xs H Q => xs.length ≤ sizeLine ∧ ∀ p, H p = none → Q (.ref p) (upd H p (.tup xs))) (pTupN (Γ := Γ)) := by
  intro M H xs ss s Q dom hp hx k
  unfold pTupN at hp
  split at hp
  · rename_i ds g
    split at hp
    · rename_i hl
      cases hp
      have r := allDat_ok hx g
      exact ⟨by rw [r.length]; exact hl, fun p hp => k.tup dom r hp⟩
    · cases hp
  · cases hp
theorem pLstN_ok {Γ : Gam} : PrimN Γ (fun xs H Q => xs.length ≤ sizeLine ∧ ∀ p, H p = none → Q (.ref p) (upd H p (.lst xs))) (pLstN (Γ := Γ)) := by
  intro M H xs ss s Q dom hp hx k
  unfold pLstN at hp
  split at hp
  · rename_i ds g
    split at hp
    · rename_i hl
      cases hp
      have r := allDat_ok hx g
      exact ⟨by rw [r.length]; exact hl, fun p hp => k.lst r hp⟩
    · cases hp
  · cases hp
section
variable {Γ : Gam} {X : Cx} {a b c e : Expr} {es : List Expr} {as : List (AE Γ)} {fa fb fc : AE Γ} {f g : Ev Γ} {pos : Pos}
theorem sd_tup {x1} (h : SdL Γ X es as) : SdE Γ X (.Tuple es x1 pos) (mN pTupN as) := .mk fun hK σ env r env' w Q he E k => wE.of (pe_tup (pa_wL h.ns)) (runN pTupN_ok h hK he E k)
theorem sd_lst (h : SdL Γ X es as) : SdE Γ X (.List es pos) (mN pLstN as) := .mk fun hK σ env r env' w Q he E k => wE.of (pe_lst (pa_wL h.ns)) (runN pLstN_ok h hK he E k)

theorem wE.mono {σ : St} {H : Hp} {Q Q' : VK} (h : wE X e σ H Q) (q : ∀ v H', Q v H' → Q' v H') : wE X e σ H Q' := fun pins s I => thn (h pins s I) fun u s1 ⟨v, H1, I1, r1, q1⟩ => ⟨v, H1, I1, r1, q v H1 q1⟩
def asInt {Γ : Gam} (s : Sl Γ) : Option Int :=
  match s.view with
  | some (.int i) => some i
  | _ => none
theorem asInt_some {s : Sl Γ} {i : Int} (h : asInt s = some i) : s.view = some (.int i) := by
  unfold asInt at h
  split at h
  · rename_i g; cases h; exact g
  · cases h
theorem CallR.imp {fv : Value} {r r' : List V → Hp → VK → Prop} (h : CallR X fv r) (q : ∀ xs H Q, r' xs H Q → r xs H Q) : CallR X fv r' := fun pins s σ H xs us Q I rv h' => h pins s σ H xs us Q I rv (q xs H Q h')
def pN1 {Γ : Gam} (p : Sl Γ → Option (Sl Γ)) : List (Sl Γ) → Option (Sl Γ)
  | [x] => p x
  | _ => none
def pN2 {Γ : Gam} (p : Sl Γ → Sl Γ → Option (Sl Γ)) : List (Sl Γ) → Option (Sl Γ)
  | [x, y] => p x y
  | _ => none
theorem pN1_ok {r : V → Hp → VK → Prop} {p : Sl Γ → Option (Sl Γ)} (h : Prim1 Γ r p) : PrimN Γ (fun xs H Q => ∃ x, xs = [x] ∧ r x H Q) (pN1 p) := by
  intro M H xs ss s Q dom hp hx k
  cases hx with
  | nil => cases hp
  | cons h1 r1 =>
    cases r1 with
    | nil => exact ⟨_, rfl, h M H _ _ s _ Q dom hp h1 k⟩
    | cons _ _ => cases hp
theorem pN2_ok {r : R2} {p : Sl Γ → Sl Γ → Option (Sl Γ)} (h : Prim2 Γ r p) : PrimN Γ (fun xs H Q => ∃ x y, xs = [x, y] ∧ r x y H Q) (pN2 p) := by
  intro M H xs ss s Q dom hp hx k
  cases hx with
  | nil => cases hp
  | cons h1 r1 =>
    cases r1 with
    | nil => cases hp
    | cons h2 r2 =>
      cases r2 with
      | nil => exact ⟨_, _, rfl, h M H _ _ _ _ s _ _ Q dom hp h1 h2 k⟩
      | cons _ _ => cases hp
/-- a built-in function, a built-in type, by what it does with values -/
structure Blt (Γ : Gam) (X : Cx) (fv : Value) (p : List (Sl Γ) → Option (Sl Γ)) : Prop where
  ex : ∃ r, (Gd Γ X → CallR X fv r) ∧ PrimN Γ r p
theorem sd_callB {x : Str} {id : String} {p : Pos} {pr : List (Sl Γ) → Option (Sl Γ)} (h : Blt Γ X (.builtin id) pr) (hg : Gl X x) (hm : X.mg x = none) (hv : bootBuiltins x = some (.builtin id)) (ha : SdL Γ X (e :: es) as) (hn : x ≠ "__name__" := by decide) (hdb : (x == ("__debug__" : Str)) = false := by decide)
    (hpl : (backTo pos (starEach es X.env)).any (·.1) = false := by rfl) : SdE Γ X (.Call (.Name x p) (e :: es) [] pos) (mN pr as) := by
  obtain ⟨r, h1, h2⟩ := h
  exact .mk fun hK σ env s env' w Q he E k => wE.of (pe_callB (h1 hK) hg hm hv (pa_wL ha.ns) hn hdb (ha.ns e List.mem_cons_self es) hpl) (runN h2 ha hK he E k)
theorem sd_callTy {x : Str} {id : String} {p : Pos} {pr : List (Sl Γ) → Option (Sl Γ)} (h : Blt Γ X (.type id) pr) (hg : Gl X x) (hm : X.mg x = none) (hv : bootBuiltins x = some (.type id)) (ha : SdL Γ X (e :: es) as) (hn : x ≠ "__name__" := by decide) (hdb : (x == ("__debug__" : Str)) = false := by decide)
    (hpl : (backTo pos (starEach es X.env)).any (·.1) = false := by rfl) : SdE Γ X (.Call (.Name x p) (e :: es) [] pos) (mN pr as) := by
  obtain ⟨r, h1, h2⟩ := h
  exact .mk fun hK σ env s env' w Q he E k => wE.of (pe_callTy (h1 hK) hg hm hv (pa_wL ha.ns) hn hdb (ha.ns e List.mem_cons_self es) hpl) (runN h2 ha hK he E k)
def pLen {Γ : Gam} (x : Sl Γ) : Option (Sl Γ) :=
  match x.view with
  | some (.lst ds) => some (di ds.length)
  | some (.tup ds) => some (di ds.length)
  | some (.str z) => if z.length ≤ sizeLine then some (di z.length) else none
  | _ => none
theorem b_len : Blt Γ X (.builtin "len") (pN1 pLen) := by
  refine ⟨_, fun g => CallR.imp call_len fun xs H Q h => ?_, pN1_ok (r := fun x H Q => ∃ n : Nat, LenV Γ.K x H n ∧ Q (.int n) H) ?_⟩
  · obtain ⟨x, e, n, h1, h2⟩ := h
    exact ⟨x, n, e, by rw [← g.k]; exact h1, h2⟩
  · intro M H x sx s Gx Q dom hp hx k
    unfold pLen at hp
    split at hp
    · rename_i ds e1
      cases hp
      obtain ⟨p, vs, rfl, hq, r⟩ := hx.list e1
      exact ⟨_, .inl ⟨vs, hq, rfl⟩, by rw [r.length]; exact k.dat (.int _)⟩
    · rename_i ds e1
      cases hp
      obtain ⟨p, vs, rfl, hq, r⟩ := hx.tuple e1
      exact ⟨_, .inr ⟨vs, hq.sq, rfl⟩, by rw [r.length]; exact k.dat (.int _)⟩
    · rename_i z e1
      split at hp
      · rename_i hl
        cases hp
        cases hx.str e1
        exact ⟨_, ⟨hl, rfl⟩, k.dat (.int _)⟩
      · cases hp
    · cases hp
def pAbs {Γ : Gam} (x : Sl Γ) : Option (Sl Γ) :=
  match x.view with
  | some (.int i) => some (di (if i < 0 then -i else i))
  | _ => none
theorem b_abs : Blt Γ X (.builtin "abs") (pN1 pAbs) := by
  refine ⟨_, fun g => CallR.imp call_abs fun xs H Q h => ?_, pN1_ok (r := fun x H Q => ∃ i : Int, x = .int i ∧ Q (.int (if i < 0 then -i else i)) H) ?_⟩
  · obtain ⟨x, e, i, h1, h2⟩ := h
    subst h1
    exact ⟨i, e, h2⟩
  · intro M H x sx s Gx Q dom hp hx k
    unfold pAbs at hp
    split at hp
    · rename_i i e1
      cases hp
      exact ⟨i, hx.int e1, k.dat (.int _)⟩
    · cases hp
def pInt {Γ : Gam} (x : Sl Γ) : Option (Sl Γ) :=
  match x.view with
  | some (.int i) => some (di i)
  | some (.bl b) => some (di (if b then 1 else 0))
  | _ => none
theorem b_int : Blt Γ X (.type "int") (pN1 pInt) := by
  refine ⟨_, fun g => CallR.imp call_int1 fun xs H Q h => ?_, pN1_ok (r := fun x H Q => (∃ i, x = V.int i ∧ Q (.int i) H) ∨ ∃ k, x = V.bl k ∧ Q (.int (if k then 1 else 0)) H) ?_⟩
  · obtain ⟨x, e, h⟩ := h
    rcases h with ⟨i, h1, h2⟩ | ⟨i, h1, h2⟩
    · subst h1; exact .inl ⟨i, e, h2⟩
    · subst h1; exact .inr ⟨i, e, h2⟩
  · intro M H x sx s Gx Q dom hp hx k
    unfold pInt at hp
    split at hp
    · rename_i i e1
      cases hp
      exact .inl ⟨i, hx.int e1, k.dat (.int _)⟩
    · rename_i i e1
      cases hp
      exact .inr ⟨i, hx.bl e1, k.dat (.int _)⟩
    · cases hp
theorem prim_2i {r : R2} {h : Int → Int → Int} (hr : ∀ i j H Q, Q (V.int (h i j)) H → r (.int i) (.int j) H Q) : Prim2 Γ r (p0 fun i j => .int (h i j)) := by
  intro M H x y sx sy s Gx Gy Q dom hp hx hy k
  unfold p0 at hp
  split at hp
  · rename_i i j e1 e2
    cases hp
    cases hx.int e1; cases hy.int e2
    exact hr i j H Q (k.dat (.int _))
  · cases hp
theorem b_max : Blt Γ X (.builtin "max") (pN2 (p0 fun i j => .int (if j > i then j else i))) := by
  refine ⟨_, fun g => CallR.imp (call_max2 g.calm) fun xs H Q h => ?_, pN2_ok (r := fun x y H Q => ∃ i j, x = V.int i ∧ y = V.int j ∧ Q (.int (if j > i then j else i)) H) (prim_2i fun i j H Q q => ⟨i, j, rfl, rfl, q⟩)⟩
  obtain ⟨x, y, e, i, j, h1, h2, h3⟩ := h
  subst h1 h2
  exact ⟨i, j, e, h3⟩
theorem b_min : Blt Γ X (.builtin "min") (pN2 (p0 fun i j => .int (if j < i then j else i))) := by
  refine ⟨_, fun g => CallR.imp (call_min2 g.calm) fun xs H Q h => ?_, pN2_ok (r := fun x y H Q => ∃ i j, x = V.int i ∧ y = V.int j ∧ Q (.int (if j < i then j else i)) H) (prim_2i fun i j H Q q => ⟨i, j, rfl, rfl, q⟩)⟩
  obtain ⟨x, y, e, i, j, h1, h2, h3⟩ := h
  subst h1 h2
  exact ⟨i, j, e, h3⟩
def pList {Γ : Gam} (x : Sl Γ) : Option (Sl Γ) :=
  match x.view with
  | some (.lst ds) => some (.lst ds)
  | some (.tup ds) => some (.lst ds)
  | _ => none
theorem b_list : Blt Γ X (.type "list") (pN1 pList) := by
  refine ⟨_, fun g => CallR.imp call_list_of fun xs H Q h => ?_, pN1_ok (r := fun x H Q => ∃ p ys, x = V.ref p ∧ (SqL Γ.K H p ys ∨ SqT Γ.K H p ys) ∧ ∀ l, H l = none → Q (.ref l) (upd H l (.lst ys))) ?_⟩
  · obtain ⟨x, e, p, ys, h1, h2, h3⟩ := h
    subst h1
    exact ⟨p, ys, e, by rw [← g.k]; exact h2, h3⟩
  · intro M H x sx s Gx Q dom hp hx k
    unfold pList at hp
    split at hp
    · rename_i ds e1
      cases hp
      obtain ⟨p, vs, rfl, hq, r⟩ := hx.list e1
      exact ⟨p, vs, rfl, .inl hq, fun l hl => k.lst r hl⟩
    · rename_i ds e1
      cases hp
      obtain ⟨p, vs, rfl, hq, r⟩ := hx.tuple e1
      exact ⟨p, vs, rfl, .inr hq.sq, fun l hl => k.lst r hl⟩
    · cases hp
def pTuple {Γ : Gam} (x : Sl Γ) : Option (Sl Γ) :=
  match x.view with
  | some (.lst ds) => some (.dat (.tup ds))
  | some (.tup ds) => some (.dat (.tup ds))
  | _ => none
theorem b_tuple : Blt Γ X (.type "tuple") (pN1 pTuple) := by
  refine ⟨_, fun g => CallR.imp call_tuple_of fun xs H Q h => ?_, pN1_ok (r := fun x H Q => ∃ p ys, x = V.ref p ∧ ((SqL Γ.K H p ys ∧ ∀ l, H l = none → Q (.ref l) (upd H l (.tup ys))) ∨ (SqT Γ.K H p ys ∧ Q (.ref p) H))) ?_⟩
  · obtain ⟨x, e, p, ys, h1, h2⟩ := h
    subst h1
    exact ⟨p, ys, e, by rw [← g.k]; exact h2⟩
  · intro M H x sx s Gx Q dom hp hx k
    unfold pTuple at hp
    split at hp
    · rename_i ds e1
      cases hp
      obtain ⟨p, vs, rfl, hq, r⟩ := hx.list e1
      exact ⟨p, vs, rfl, .inl ⟨hq, fun l hl => k.tup dom r hl⟩⟩
    · rename_i ds e1
      cases hp
      obtain ⟨p, vs, rfl, hq, r⟩ := hx.tuple e1
      exact ⟨p, vs, rfl, .inr ⟨hq.sq, k.dat (.tup hq r)⟩⟩
    · cases hp
def allBl : List D → Option (List Bool)
  | [] => some []
  | .bl b :: r => (allBl r).map (b :: ·)
  | _ => none
theorem allBl_ok {M : Addr → Prop} {H : Hp} : ∀ {vs : List V} {ds : List D} {bs : List Bool}, Dats Γ M H vs ds → allBl ds = some bs → vs = bs.map V.bl
  | _, _, _, .nil, e => by cases e; rfl
  | _, _, _, .cons (d := d) (ds := ds) h r, e => by
    cases d with
    | bl b =>
      unfold allBl at e
      cases g : allBl ds with
      | none => rw [g] at e; cases e
      | some es =>
        rw [g] at e
        cases e
        cases h
        rw [allBl_ok r g]
        rfl
    | _ => cases e
def pBools {Γ : Gam} (q : List Bool → Bool) (x : Sl Γ) : Option (Sl Γ) :=
  match x.view with
  | some (.lst ds) => (allBl ds).map fun bs => db (q bs)
  | _ => none
theorem pBools_ok {q : List Bool → Bool} : Prim1 Γ (fun x H Q => ∃ (a : Addr) (bs : List Bool), x = V.ref a ∧ SqL Γ.K H a (bs.map V.bl) ∧ Q (.bl (q bs)) H) (pBools q) := by
  intro M H x sx s Gx Q dom hp hx k
  unfold pBools at hp
  split at hp
  · rename_i ds e1
    cases g : allBl ds with
    | none => rw [g] at hp; cases hp
    | some bs =>
      rw [g] at hp
      cases hp
      obtain ⟨p, vs, rfl, hq, r⟩ := hx.list e1
      have ev := allBl_ok r g
      subst ev
      exact ⟨p, bs, rfl, hq, k.dat (.bl _)⟩
  · cases hp
theorem b_all : Blt Γ X (.builtin "all") (pN1 (pBools fun bs => bs.all id)) := by
  refine ⟨_, fun g => CallR.imp (cr_all g.calm) fun xs H Q h => ?_, pN1_ok pBools_ok⟩
  obtain ⟨x, e, a, bs, h1, h2, h3⟩ := h
  subst h1
  exact ⟨a, bs, e, by rw [← g.k]; exact h2, h3⟩
theorem b_any : Blt Γ X (.builtin "any") (pN1 (pBools fun bs => bs.any id)) := by
  refine ⟨_, fun g => CallR.imp (cr_any g.calm) fun xs H Q h => ?_, pN1_ok pBools_ok⟩
  obtain ⟨x, e, a, bs, h1, h2, h3⟩ := h
  subst h1
  exact ⟨a, bs, e, by rw [← g.k]; exact h2, h3⟩
end
end G

set_option maxHeartbeats 4000000
namespace G
open PySem L2

def wG (X : Cx) (tg : Expr) : TG := fun v σ H Q => ∀ (u : Value) pins s, RelV v u → Inv X pins σ H s → wpAny (model X.prog X.w) X.A (assign tg X.env u) (fun _ s' => ∃ σ' H', Inv X pins σ' H' s' ∧ Q σ' H') X.xe s
def wI (X : Cx) (tg iter : Expr) : TI := fun σ H R => ∀ pins s, Inv X pins σ H s → wpAny (model X.prog X.w) X.A (eval iter X.env) (fun v s1 => wpAny (model X.prog X.w) X.A (pyIter v) (PIE X pins σ tg R) X.xe s1) X.xe s
theorem pg_wG {X : Cx} {tg : Expr} : PG X tg (wG X tg) := ⟨fun pins s σ H v u Q I r h => h u pins s r I⟩
theorem pi_wI {X : Cx} {tg iter : Expr} : PI X tg iter (wI X tg iter) := ⟨fun pins s σ H R I h => h pins s I⟩
theorem wG.of {X : Cx} {tg : Expr} {t : TG} {v : V} {σ : St} {H : Hp} {Q : St → Hp → Prop} (h : PG X tg t) (q : t v σ H Q) : wG X tg v σ H Q := fun u pins s r I => h.run pins s σ H v u Q I r q
theorem wI.of {X : Cx} {tg iter : Expr} {t : TI} {σ : St} {H : Hp} {R : It → Hp → Prop} (h : PI X tg iter t) (q : t σ H R) : wI X tg iter σ H R := fun pins s I => h.run pins s σ H R I q

/-- the slots outside A hold what they held -/
structure Agree (A : List Nat) (σ σ' : St) : Prop where
  len : σ'.length = σ.length
  get : ∀ i, i ∉ A → σ'[i]? = σ[i]?
theorem Agree.refl {A : List Nat} {σ : St} : Agree A σ σ := ⟨rfl, fun _ _ => rfl⟩
theorem Agree.trans {A : List Nat} {σ σ1 σ2 : St} (h : Agree A σ σ1) (h' : Agree A σ1 σ2) : Agree A σ σ2 := ⟨h'.len.trans h.len, fun i n => (h'.get i n).trans (h.get i n)⟩
theorem Agree.set {A : List Nat} {σ : St} {i : Nat} {v : Option V} (h : i ∈ A) : Agree A σ (σ.set i v) := ⟨List.length_set, fun j n => List.getElem?_set_ne (fun (e : i = j) => n (e ▸ h))⟩

section
variable {Γ : Gam} {X : Cx} {w : Wd} {σ : St} {env : Env Γ}
theorem ER.set (E : ER Γ w σ env) {v : V} {s : Sl Γ} {Fr : Addr → Prop} (T : TR Γ w v s Fr) {i : Nat} (hi : i < env.length) : ER Γ ⟨w.M, fun j a => if j = i then Fr a else w.F j a, w.H⟩ (σ.set i (some v)) (env.set i s) := by
  refine ⟨by rw [List.length_set, List.length_set]; exact E.len, fun j t hj => ?_, fun j a f => ?_, fun j k a f f' => ?_, E.dom, fun j hj a f => ?_⟩
  · by_cases e : j = i
    · subst e
      rw [List.getElem?_set_self hi] at hj
      cases hj
      refine .inr ⟨v, by rw [List.getElem?_set_self (by rw [← E.len]; exact hi)], ?_⟩
      have ef : (fun a => if j = j then Fr a else w.F j a) = Fr := by funext a; rw [if_pos rfl]
      show SR Γ w.M w.H v s (fun a => if j = j then Fr a else w.F j a)
      rw [ef]
      exact T.rep
    · rw [List.getElem?_set_ne (Ne.symm e)] at hj
      have ef : (fun a => if j = i then Fr a else w.F j a) = w.F j := by funext a; rw [if_neg e]
      rcases E.slot j t hj with ⟨z1, z2⟩ | ⟨u, eu, ru⟩
      · refine .inl ⟨z1, fun a f => ?_⟩
        have f' : (if j = i then Fr a else w.F j a) := f
        rw [if_neg e] at f'
        exact z2 a f'
      · refine .inr ⟨u, by rw [List.getElem?_set_ne (Ne.symm e)]; exact eu, ?_⟩
        show SR Γ w.M w.H u t (fun a => if j = i then Fr a else w.F j a)
        rw [ef]
        exact ru
  · have f' : (if j = i then Fr a else w.F j a) := f
    split at f'
    · exact T.sub a f'
    · exact E.sub j a f'
  · have g : (if j = i then Fr a else w.F j a) := f
    have g' : (if k = i then Fr a else w.F k a) := f'
    split at g
    · rename_i e1
      split at g'
      · rename_i e2; rw [e1, e2]
      · exact absurd g' (T.off a k g)
    · split at g'
      · exact absurd g (T.off a j g')
      · exact E.dis j k a g g'
  · have g : (if j = i then Fr a else w.F j a) := f
    rw [List.length_set] at hj
    split at g
    · omega
    · exact E.out j hj a g
theorem Step.set {w0 : Wd} {i : Nat} {Fr : Addr → Prop} (p : Step w0 w) (f : Fresh w0 Fr) : Step w0 ⟨w.M, fun j a => if j = i then Fr a else w.F j a, w.H⟩ :=
  ⟨p.keep, p.mu, p.src, fun j a g => by
    have g' : (if j = i then Fr a else w.F j a) := g
    split at g'
    · exact f a g'
    · exact p.own j a g', p.live⟩

abbrev Eg (Γ : Gam) := D → Env Γ → Option (Env Γ)
structure SdG (Γ : Gam) (X : Cx) (A : List Nat) (tg : Expr) (t : Eg Γ) : Prop where
  run : Gd Γ X → ∀ (σ : St) (env : Env Γ) (d : D) (env' : Env Γ) (w : Wd) (v : V) (Q : St → Hp → Prop), t d env = some env' → ER Γ w σ env → Dat Γ w.M w.H v d → (∀ σ' w', ER Γ w' σ' env' → Step w w' → Agree A σ σ' → Q σ' w'.H) → wG X tg v σ w.H Q
instance {Γ : Gam} {X : Cx} {A : List Nat} {tg : Expr} {t : Eg Γ} : CoeFun (SdG Γ X A tg t) (fun _ => Gd Γ X → ∀ (σ : St) (env : Env Γ) (d : D) (env' : Env Γ) (w : Wd) (v : V) (Q : St → Hp → Prop), t d env = some env' → ER Γ w σ env → Dat Γ w.M w.H v d → (∀ σ' w', ER Γ w' σ' env' → Step w w' → Agree A σ σ' → Q σ' w'.H) → wG X tg v σ w.H Q) := ⟨SdG.run⟩
def gNm {Γ : Gam} (i : Nat) : Eg Γ := fun d env => if i < env.length then some (env.set i (.dat d)) else none
theorem TR.dat {v : V} {d : D} (h : Dat Γ w.M w.H v d) : TR Γ w v (.dat d) (fun _ => False) := ⟨⟨h, fun _ z => z⟩, fun _ z => z.elim, fun _ _ z => z.elim⟩
theorem sdg_name {A : List Nat} {pos : Pos} (i : Nat) {x : Str} (hA : i ∈ A) (hi : X.N[i]? = some x) (hx : Loc X.env.scope x) (hf : X.fn x = true ∨ X.env.scope.names.lookup x = some .local) : SdG Γ X A (.Name x pos) (gNm i) := by
  refine ⟨?_⟩
  intro hK σ env d env' w v Q he E hd k
  refine wG.of (pg_name hK.nd hi hx hf) ?_
  unfold gNm at he
  split at he
  · rename_i hl
    cases he
    exact k _ ⟨w.M, fun j a => if j = i then False else w.F j a, w.H⟩ (E.set (TR.dat hd) hl) ((Step.refl w).set fun _ z => z.elim) (Agree.set hA)
  · cases he
inductive SdGs (Γ : Gam) (X : Cx) (A : List Nat) : List Expr → List (Eg Γ) → Prop
  | nil : SdGs Γ X A [] []
  | cons {e : Expr} {es : List Expr} {t : Eg Γ} {ts : List (Eg Γ)} : SdG Γ X A e t → ((assignEach (e :: es) X.env).map (·.2) = assign e X.env :: (assignEach es X.env).map (·.2)) → SdGs Γ X A es ts → SdGs Γ X A (e :: es) (t :: ts)
def gAll {Γ : Gam} : List (Eg Γ) → List D → Env Γ → Option (Env Γ)
  | [], [], env => some env
  | t :: ts, d :: ds, env => match t d env with
    | none => none
    | some env1 => gAll ts ds env1
  | _, _, _ => none
def gTp {Γ : Gam} (ts : List (Eg Γ)) : Eg Γ := fun d env =>
  match d with
  | .tup ds => gAll ts ds env
  | _ => none
def wGs (X : Cx) : List Expr → TGs
  | [] => gNil
  | e :: es => gCons (wG X e) (wGs X es)
theorem SdGs.pgs {A : List Nat} : ∀ {es : List Expr} {ts : List (Eg Γ)}, SdGs Γ X A es ts → PGs X es (wGs X es)
  | _, _, .nil => pgs_nil
  | _, _, .cons h n r => pgs_cons pg_wG (SdGs.pgs r) n
theorem gAll_len {ts : List (Eg Γ)} : ∀ {ds : List D} {env env' : Env Γ}, gAll ts ds env = some env' → ts.length = ds.length := by
  induction ts with
  | nil => intro ds env env' h; cases ds with | nil => rfl | cons _ _ => cases h
  | cons t ts ih =>
    intro ds env env' h
    cases ds with
    | nil => cases h
    | cons d ds =>
      unfold gAll at h
      cases g : t d env with
      | none => rw [g] at h; cases h
      | some env1 => rw [g] at h; rw [List.length_cons, List.length_cons, ih h]
theorem gAll_run (hK : Gd Γ X) {A : List Nat} : ∀ {es : List Expr} {ts : List (Eg Γ)} {ds : List D} {vs : List V} {σ : St} {env env' : Env Γ} {w : Wd} {Q : St → Hp → Prop}, SdGs Γ X A es ts → gAll ts ds env = some env' → ER Γ w σ env → Dats Γ w.M w.H vs ds →
    (∀ σ' w', ER Γ w' σ' env' → Step w w' → Agree A σ σ' → Q σ' w'.H) → wGs X es vs σ w.H Q
  | _, _, ds, vs, σ, env, env', w, Q, .nil, he, E, hd, k => by
    cases ds with
    | nil => cases he; cases hd; exact ⟨rfl, k σ w E (Step.refl w) Agree.refl⟩
    | cons _ _ => cases he
  | _, _, ds, vs, σ, env, env', w, Q, .cons (e := e) (es := es) (t := t) (ts := ts) h n r, he, E, hd, k => by
    cases ds with
    | nil => cases he
    | cons d ds =>
      unfold gAll at he
      cases g : t d env with
      | none => rw [g] at he; cases he
      | some env1 =>
        rw [g] at he
        cases hd with
        | cons h1 h2 =>
          refine ⟨_, _, rfl, h hK σ env d env1 w _ _ g E h1 fun σ1 w1 E1 p1 a1 => ?_⟩
          exact gAll_run hK r he E1 (h2.go (E.go p1)) fun σ2 w2 E2 p2 a2 => k σ2 w2 E2 (p1.trans p2 E.dom) (a1.trans a2)
theorem sdg_tup {A : List Nat} {es : List Expr} {ts : List (Eg Γ)} {k : Nat} {pos : Pos} (h : SdGs Γ X A es ts) (hn : (assignEach es X.env).length = ts.length) (hst : (assignEach es X.env).findIdx? (·.1) = none) : SdG Γ X A (.Tuple es k pos) (gTp ts) := by
  refine ⟨?_⟩
  intro hK σ env d env' w v Q he E hd k
  refine wG.of (pg_tup hK.calm h.pgs hn hst) ?_
  cases d with
  | tup ds =>
    cases hd with
    | tup ht r => exact ⟨_, _, rfl, by rw [← hK.k]; exact ht.sq, by rw [r.length]; exact (gAll_len (show gAll ts ds env = some env' from he)).symm, gAll_run hK h he E r k⟩
  | _ => cases he

/-- J walks the data ds, wherever what is not changed stays -/
structure ItOk (Γ : Gam) (J : It) (ds : List D) (M : Addr → Prop) (H : Hp) : Prop where
  go : ∀ M' H', Go M H M' H' → (∀ a, M' a → H' a ≠ none) → ∀ i d, ds[i]? = some d → J.go i H' ∧ ∀ x H2, J.yld i H' x H2 → (∀ a u, H' a = some u → H2 a = some u) ∧ Dat Γ M' H2 x d
  stop : ∀ M' H', Go M H M' H' → J.stop ds.length H'
theorem Go.trans {M M1 M2 : Addr → Prop} {H H1 H2 : Hp} (a : Go M H M1 H1) (b : Go M1 H1 M2 H2) : Go M H M2 H2 :=
  ⟨fun x u n e => b.keep x u (a.stay x n (by rw [e]; simp)) (a.keep x u n e), fun x n e => by
    cases q : H x with
    | none => exact absurd q e
    | some u => exact b.stay x (a.stay x n e) (by rw [a.keep x u n q]; simp)⟩
theorem ItOk.step {J : It} {ds : List D} {M M' : Addr → Prop} {H H' : Hp} (h : ItOk Γ J ds M H) (g : Go M H M' H') : ItOk Γ J ds M' H' := ⟨fun M2 H2 g2 => h.go M2 H2 (g.trans g2), fun M2 H2 g2 => h.stop M2 H2 (g.trans g2)⟩
abbrev Ei (Γ : Gam) := Env Γ → Option (List D × Env Γ)
structure SdI (Γ : Gam) (X : Cx) (tg iter : Expr) (f : Ei Γ) : Prop where
  run : Gd Γ X → ∀ (σ : St) (env : Env Γ) (ds : List D) (env' : Env Γ) (w : Wd) (R : It → Hp → Prop), f env = some (ds, env') → ER Γ w σ env → (∀ J w', ER Γ w' σ env' → Step w w' → ItOk Γ J ds w'.M w'.H → R J w'.H) → wI X tg iter σ w.H R
instance {Γ : Gam} {X : Cx} {tg iter : Expr} {f : Ei Γ} : CoeFun (SdI Γ X tg iter f) (fun _ => Gd Γ X → ∀ (σ : St) (env : Env Γ) (ds : List D) (env' : Env Γ) (w : Wd) (R : It → Hp → Prop), f env = some (ds, env') → ER Γ w σ env → (∀ J w', ER Γ w' σ env' → Step w w' → ItOk Γ J ds w'.M w'.H → R J w'.H) → wI X tg iter σ w.H R) := ⟨SdI.run⟩
def iSeq {Γ : Gam} (f : Ev Γ) : Ei Γ := fun env =>
  match f env with
  | some (.dat (.lst ds), env') => some (ds, env')
  | some (.dat (.tup ds), env') => some (ds, env')
  | some (.scr ns, env') => some (ns.map .int, env')
  | _ => none
theorem ItOk.list {a : Addr} {vs : List V} {ds : List D} {M : Addr → Prop} {H : Hp} (h : LstM Γ.K M H a vs) (r : Dats Γ M H vs ds) : ItOk Γ (Itl Γ.K a) ds M H := by
  refine ⟨fun M' H' g _ i d e => ?_, fun M' H' g => ⟨vs, (h.go g).sq, Nat.le_of_eq r.length⟩⟩
  obtain ⟨v, ev, hv⟩ := r.get e
  refine ⟨⟨vs, v, (h.go g).sq, ev⟩, fun x H2 y => ?_⟩
  obtain ⟨rfl, y⟩ := y
  have q := y vs (h.go g).sq
  rw [ev] at q
  cases q
  exact ⟨fun _ _ z => z, hv.go g⟩
theorem ItOk.tup {a : Addr} {vs : List V} {ds : List D} {M : Addr → Prop} {H : Hp} (h : TupM Γ.K M H a vs) (r : Dats Γ M H vs ds) : ItOk Γ (Itt Γ.K a) ds M H := by
  refine ⟨fun M' H' g _ i d e => ?_, fun M' H' g => ⟨vs, (h.go g).sq, Nat.le_of_eq r.length⟩⟩
  obtain ⟨v, ev, hv⟩ := r.get e
  refine ⟨⟨vs, v, (h.go g).sq, ev⟩, fun x H2 y => ?_⟩
  obtain ⟨rfl, y⟩ := y
  have q := y vs (h.go g).sq
  rw [ev] at q
  cases q
  exact ⟨fun _ _ z => z, hv.go g⟩
theorem sdi_seq {tg iter : Expr} {f : Ev Γ} (h : SdE Γ X iter f) : SdI Γ X tg iter (iSeq f) := by
  refine ⟨?_⟩
  intro hK σ env ds env' w R he E k
  unfold iSeq at he
  split at he
  · rename_i ds1 env1 g
    cases he
    refine wI.of (pi_list pe_wE) (h hK σ env _ _ w _ g E fun v w1 Fr E1 T1 p1 f1 => ?_)
    cases T1.rep.1 with
    | lst n hp r => exact ⟨_, rfl, ⟨_, SqL.of hp⟩, by rw [← hK.k]; exact k _ w1 E1 p1 (.list (.inl ⟨n, .inl hp⟩) r)⟩
  · rename_i ds1 env1 g
    cases he
    refine wI.of (pi_tup pe_wE) (h hK σ env _ _ w _ g E fun v w1 Fr E1 T1 p1 f1 => ?_)
    cases T1.rep.1 with
    | tup hp r => exact ⟨_, rfl, ⟨_, by rw [← hK.k]; exact hp.sq⟩, by rw [← hK.k]; exact k _ w1 E1 p1 (.tup hp r)⟩
  · rename_i ns env1 g
    cases he
    refine wI.of (pi_list pe_wE) (h hK σ env _ _ w _ g E fun v w1 Fr E1 T1 p1 f1 => ?_)
    obtain ⟨⟨a, rfl, hl⟩, _⟩ := T1.rep
    exact ⟨a, rfl, ⟨_, by rw [← hK.k]; exact hl.sq⟩, by rw [← hK.k]; exact k _ w1 E1 p1 (.list hl (dats_ints ns))⟩
  · cases he
/-- range(n) -/
def iRng {Γ : Gam} (f : Ev Γ) : Ei Γ := fun env =>
  match f env with
  | some (.dat (.int n), env') => if n < 2 ^ 62 ∧ -(2 ^ 62) ≤ n then some ((List.range n.toNat).map fun (k : Nat) => D.int (k : Int), env') else none
  | _ => none
theorem ItOk.rng {lo : Int} {n : Nat} {M : Addr → Prop} {H : Hp} : ItOk Γ (Itr lo n) ((List.range n).map fun (k : Nat) => D.int (lo + (k : Int))) M H := by
  refine ⟨fun M' H' g _ i d e => ?_, fun M' H' g => ?_⟩
  · rw [List.getElem?_map] at e
    cases q : (List.range n)[i]? with
    | none => rw [q] at e; cases e
    | some j =>
      rw [q] at e
      cases e
      have hi : i < n := by
        have := (List.getElem?_eq_some_iff.mp q).1
        rw [List.length_range] at this
        exact this
      rw [List.getElem?_range hi] at q
      cases q
      refine ⟨hi, fun x H2 y => ?_⟩
      obtain ⟨rfl, rfl⟩ := y
      exact ⟨fun _ _ z => z, .int _⟩
  · show n ≤ _
    rw [List.length_map, List.length_range]
    exact Nat.le_refl _
theorem sdi_range {tg a : Expr} {f : Ev Γ} {p pos : Pos} (hg : Gl X "range") (hm : X.mg "range" = none) (ha : SdE Γ X a f) (hs : NS X a) : SdI Γ X tg (.Call (.Name "range" p) [a] [] pos) (iRng f) := by
  refine ⟨?_⟩
  intro hK σ env ds env' w R he E k
  refine wI.of (pi_range1 hg hm (pa_wL (es := [a]) fun e h => by rw [List.mem_singleton.mp h]; exact hs) (hs [])) ?_
  unfold iRng at he
  split at he
  · rename_i n env1 g
    split at he
    · rename_i hn
      cases he
      refine ha hK σ env _ _ w _ g E fun v w1 Fr E1 T1 p1 f1 => ?_
      cases T1.rep.int rfl
      refine ⟨n, rfl, hn.2, hn.1, k _ w1 E1 p1 ?_⟩
      have q := ItOk.rng (Γ := Γ) (lo := 0) (n := n.toNat) (M := w1.M) (H := w1.H)
      simpa using q
    · cases he
  · cases he
end
end G

set_option maxHeartbeats 4000000
namespace G
open PySem L2

inductive Fl (Γ : Gam) where
  | nx | rt (s : Sl Γ) | bk | ct
abbrev Es (Γ : Gam) := Env Γ → Option (Fl Γ × Env Γ)
def Post (Γ : Gam) (A : List Nat) (σ : St) (w : Wd) (D : Ends) (fl : Fl Γ) (env' : Env Γ) : Prop :=
  match fl with
  | .nx => ∀ σ' w', ER Γ w' σ' env' → Step w w' → Agree A σ σ' → D.nx σ' w'.H
  | .bk => ∀ σ' w', ER Γ w' σ' env' → Step w w' → Agree A σ σ' → D.bk σ' w'.H
  | .ct => ∀ σ' w', ER Γ w' σ' env' → Step w w' → Agree A σ σ' → D.ct σ' w'.H
  | .rt s => ∀ v σ' w' Fr, ER Γ w' σ' env' → TR Γ w' v s Fr → Step w w' → Fresh w Fr → Agree A σ σ' → D.rt v w'.H
structure SdS (Γ : Gam) (X : Cx) (A : List Nat) (st : Stmt) (f : Es Γ) : Prop where
  run : Gd Γ X → ∀ (σ : St) (env : Env Γ) (fl : Fl Γ) (env' : Env Γ) (w : Wd) (D : Ends), f env = some (fl, env') → ER Γ w σ env → Post Γ A σ w D fl env' → wS X st D σ w.H
instance {Γ : Gam} {X : Cx} {A : List Nat} {st : Stmt} {f : Es Γ} : CoeFun (SdS Γ X A st f) (fun _ => Gd Γ X → ∀ (σ : St) (env : Env Γ) (fl : Fl Γ) (env' : Env Γ) (w : Wd) (D : Ends), f env = some (fl, env') → ER Γ w σ env → Post Γ A σ w D fl env' → wS X st D σ w.H) := ⟨SdS.run⟩
structure SdSs (Γ : Gam) (X : Cx) (A : List Nat) (st : List Stmt) (f : Es Γ) : Prop where
  run : Gd Γ X → ∀ (σ : St) (env : Env Γ) (fl : Fl Γ) (env' : Env Γ) (w : Wd) (D : Ends), f env = some (fl, env') → ER Γ w σ env → Post Γ A σ w D fl env' → wSs X st D σ w.H
instance {Γ : Gam} {X : Cx} {A : List Nat} {st : List Stmt} {f : Es Γ} : CoeFun (SdSs Γ X A st f) (fun _ => Gd Γ X → ∀ (σ : St) (env : Env Γ) (fl : Fl Γ) (env' : Env Γ) (w : Wd) (D : Ends), f env = some (fl, env') → ER Γ w σ env → Post Γ A σ w D fl env' → wSs X st D σ w.H) := ⟨SdSs.run⟩
def mNx {Γ : Gam} : Es Γ := fun env => some (.nx, env)
def mSeq {Γ : Gam} (f g : Es Γ) : Es Γ := fun env =>
  match f env with
  | some (.nx, env1) => g env1
  | r => r
def mDrop {Γ : Gam} (f : Ev Γ) : Es Γ := fun env => (f env).map fun p => (.nx, p.2)
def mRet {Γ : Gam} (f : Ev Γ) : Es Γ := fun env => (f env).map fun p => (.rt p.1, p.2)
def mSet {Γ : Gam} (i : Nat) (f : Ev Γ) : Es Γ := fun env =>
  match f env with
  | some (s, env1) => if i < env1.length then some (.nx, env1.set i s) else none
  | none => none
def mIfS {Γ : Gam} (c : Et Γ) (f g : Es Γ) : Es Γ := fun env =>
  match c env with
  | none => none
  | some (true, env1) => f env1
  | some (false, env1) => g env1
section
variable {Γ : Gam} {X : Cx} {A : List Nat} {e c : Expr} {st : Stmt} {rest : List Stmt} {f : Ev Γ} {g h' : Es Γ} {pos : Pos}
theorem Post.step {σ σ1 : St} {w w1 : Wd} {D : Ends} {fl : Fl Γ} {env' : Env Γ} (dom : ∀ a, w.M a → w.H a ≠ none) (p : Step w w1) (a : Agree A σ σ1) (h : Post Γ A σ w D fl env') : Post Γ A σ1 w1 D fl env' := by
  cases fl with
  | nx => exact fun σ' w' E q b => h σ' w' E (p.trans q dom) (a.trans b)
  | bk => exact fun σ' w' E q b => h σ' w' E (p.trans q dom) (a.trans b)
  | ct => exact fun σ' w' E q b => h σ' w' E (p.trans q dom) (a.trans b)
  | rt s => exact fun v σ' w' Fr E T q f b => h v σ' w' Fr E T (p.trans q dom) (f.back p) (a.trans b)
theorem sdss_nil : SdSs Γ X A [] mNx := .mk fun hK σ env fl env' w D he E k => by
  cases he
  exact wSs.of pss_nil (k σ w E (Step.refl w) Agree.refl)
theorem sdss_cons (h1 : SdS Γ X A st g) (h2 : SdSs Γ X A rest h') : SdSs Γ X A (st :: rest) (mSeq g h') := by
  refine ⟨?_⟩
  intro hK σ env fl env' w D he E k
  refine wSs.of (pss_cons ps_wS pss_wSs) ?_
  unfold mSeq at he
  show wS X st { D with nx := wSs X rest D } σ w.H
  cases g1 : g env with
  | none => simp only [g1] at he; cases he
  | some q =>
    obtain ⟨fl1, env1⟩ := q
    cases fl1 with
    | nx =>
      simp only [g1] at he
      exact h1 hK σ env _ _ w _ g1 E fun σ1 w1 E1 p1 a1 => h2 hK σ1 env1 fl env' w1 D he E1 (k.step E.dom p1 a1)
    | bk => simp only [g1] at he; cases he; exact h1 hK σ env _ _ w _ g1 E k
    | ct => simp only [g1] at he; cases he; exact h1 hK σ env _ _ w _ g1 E k
    | rt s => simp only [g1] at he; cases he; exact h1 hK σ env _ _ w _ g1 E k
theorem sdss_one (h1 : SdS Γ X A st g) : SdSs Γ X A [st] g := by
  refine ⟨?_⟩
  intro hK σ env fl env' w D he E k
  exact wSs.of (pss_one ps_wS) (h1 hK σ env fl env' w D he E k)
theorem sds_expr (h : SdE Γ X e f) (hs : swapsWith e none pos.line X.env = pure false := by rfl) : SdS Γ X A (.Expr e pos) (mDrop f) := by
  refine ⟨?_⟩
  intro hK σ env fl env' w D he E k
  refine wS.of (ps_expr pe_wE hs) ?_
  unfold mDrop at he
  cases g1 : f env with
  | none => rw [g1] at he; cases he
  | some q =>
    rw [g1] at he
    cases he
    exact h hK σ env _ _ w _ g1 E fun v w1 Fr E1 T1 p1 f1 => k σ w1 E1 p1 Agree.refl
theorem sds_ret (h : SdE Γ X e f) : SdS Γ X A (.Return (some e) pos) (mRet f) := by
  refine ⟨?_⟩
  intro hK σ env fl env' w D he E k
  refine wS.of (ps_ret pe_wE) ?_
  unfold mRet at he
  cases g1 : f env with
  | none => rw [g1] at he; cases he
  | some q =>
    rw [g1] at he
    cases he
    exact h hK σ env _ _ w _ g1 E fun v w1 Fr E1 T1 p1 f1 => k v σ w1 Fr E1 T1 p1 f1 Agree.refl
theorem set_run {i : Nat} {σ : St} {env env' : Env Γ} {fl : Fl Γ} {w : Wd} {D : Ends} (hA : i ∈ A) (h : SdE Γ X e f) (hK : Gd Γ X) (he : mSet i f env = some (fl, env')) (E : ER Γ w σ env) (k : Post Γ A σ w D fl env') : tAsg (wE X e) (gName i) D σ w.H := by
  unfold mSet at he
  cases g1 : f env with
  | none => simp only [g1] at he; cases he
  | some q =>
    obtain ⟨s, env1⟩ := q
    simp only [g1] at he
    split at he
    · rename_i hl
      cases he
      refine h hK σ env _ _ w _ g1 E fun v w1 Fr E1 T1 p1 f1 => ?_
      exact k _ ⟨w1.M, fun j a => if j = i then Fr a else w1.F j a, w1.H⟩ (E1.set T1 hl) (p1.set f1) (Agree.set hA)
    · cases he
theorem sds_set (i : Nat) {x : Str} {pos' : Pos} (hA : i ∈ A) (hi : X.N[i]? = some x) (hx : Loc X.env.scope x) (h : SdE Γ X e f) (hs : swapsWith e (some (.Name x pos')) pos.line X.env = pure false := by rfl) (hf : X.fn x = true ∨ X.env.scope.names.lookup x = some .local := by first | exact .inl rfl | exact .inr rfl) :
    SdS Γ X A (.Assign [.Name x pos'] e pos) (mSet i f) := .mk fun hK σ env fl env' w D he E k => wS.of (ps_set hK.nd hi hx pe_wE hs hf) (set_run hA h hK he E k)
theorem sds_if {tc : Et Γ} {a b : List Stmt} (hc : SdT Γ X c tc) (ha : SdSs Γ X A a g) (hb : SdSs Γ X A b h') : SdS Γ X A (.If c a b pos) (mIfS tc g h') := by
  refine ⟨?_⟩
  intro hK σ env fl env' w D he E k
  refine wS.of (ps_if pt_wT pss_wSs pss_wSs) ?_
  unfold mIfS at he
  split at he
  · cases he
  · rename_i env1 g1
    refine hc hK σ env _ _ w _ g1 E fun w1 E1 p1 => ?_
    rw [if_pos rfl]
    exact ha hK σ env1 fl env' w1 D he E1 (k.step E.dom p1 Agree.refl)
  · rename_i env1 g1
    refine hc hK σ env _ _ w _ g1 E fun w1 E1 p1 => ?_
    rw [if_neg Bool.false_ne_true]
    exact hb hK σ env1 fl env' w1 D he E1 (k.step E.dom p1 Agree.refl)

/-- a, b = x, y (two plain locals) -/
def mPar {Γ : Gam} (i j : Nat) (f g : Ev Γ) : Es Γ := fun env =>
  match f env with
  | none => none
  | some (s, env1) => match g env1 with
    | none => none
    | some (t, env2) => if i < env2.length ∧ j < env2.length then some (.nx, (env2.set i s).set j t) else none
theorem sds_par {i j : Nat} {x y : Str} {a b : Expr} {fa fb : Ev Γ} {px py pt : Pos} {kt k2 pt2} (hAi : i ∈ A) (hAj : j ∈ A) (hi : X.N[i]? = some x) (hj : X.N[j]? = some y) (hij : i ≠ j)
    (hx : X.env.scope.names.lookup x = some .local) (hy : X.env.scope.names.lookup y = some .local) (ha : SdE Γ X a fa) (na : NS X a) (hb : SdE Γ X b fb) (nb : NS X b)
    (hw : swappedStores [.Tuple [.Name x px, .Name y py] kt pt] (.Tuple [a, b] k2 pt2) X.env = pure (some [x, y]))
    (hs : swapsWithSole [.Tuple [.Name x px, .Name y py] kt pt] (.Tuple [a, b] k2 pt2) pos.line X.env = pure false := by rfl) :
    SdS Γ X A (.Assign [.Tuple [.Name x px, .Name y py] kt pt] (.Tuple [a, b] k2 pt2) pos) (mPar i j fa fb) := by
  refine ⟨?_⟩
  intro hK σ env fl env' w D he E k
  refine wS.of (ps_par hK.calm hK.nd hi hj hij hx hy (pa_wL (es := [a, b]) fun e h => by rcases List.mem_cons.mp h with z | z; (rw [z]; exact na); (rw [List.mem_singleton.mp z]; exact nb)) hw hs) ?_
  unfold mPar at he
  cases g1 : fa env with
  | none => simp only [g1] at he; cases he
  | some q =>
    obtain ⟨s, env1⟩ := q
    simp only [g1] at he
    cases g2 : fb env1 with
    | none => simp only [g2] at he; cases he
    | some q =>
      obtain ⟨t, env2⟩ := q
      simp only [g2] at he
      split at he
      · rename_i hl
        cases he
        refine ha hK σ env _ _ w _ g1 E fun v w1 Fr E1 T1 p1 f1 => ?_
        refine hb hK σ env1 _ _ w1 _ g2 E1 fun u w2 Fr2 E2 T2 p2 f2 => ?_
        refine ⟨v, u, rfl, ?_⟩
        have T1' := TR.step E1 T1 p2
        have dis : ∀ z, Fr z → ¬ Fr2 z := fun z q q' => by
          rcases f2 z q' with ⟨i, r⟩ | r
          · exact T1.off z i q r
          · exact E1.dom z (T1.sub z q) r
        have p12 := p1.trans p2 E.dom
        have E3 := E2.set T1' hl.1
        have T2' : TR Γ ⟨w2.M, fun j a => if j = i then Fr a else w2.F j a, w2.H⟩ u t Fr2 := ⟨T2.rep, T2.sub, fun a l q z => by
          have z' : (if l = i then Fr a else w2.F l a) := z
          split at z'
          · exact dis a z' q
          · exact T2.off a l q z'⟩
        have E4 := E3.set T2' (i := j) (by rw [List.length_set]; exact hl.2)
        exact k _ ⟨w2.M, fun l a => if l = j then Fr2 a else if l = i then Fr a else w2.F l a, w2.H⟩ E4 ((p12.set f1).set (f2.back p1)) ((Agree.set hAi).trans (Agree.set hAj))
      · cases he
end
end G

set_option maxHeartbeats 4000000
namespace G
open PySem L2

def forL {Γ : Gam} (t : Eg Γ) (g : Es Γ) : List D → Env Γ → Option (Fl Γ × Env Γ)
  | [], env => some (.nx, env)
  | d :: ds, env => match t d env with
    | none => none
    | some e1 => match g e1 with
      | some (.nx, e2) => forL t g ds e2
      | some (.ct, e2) => forL t g ds e2
      | some (.bk, e2) => some (.nx, e2)
      | some (.rt s, e2) => some (.rt s, e2)
      | none => none
def mFor {Γ : Gam} (fi : Ei Γ) (t : Eg Γ) (g : Es Γ) : Es Γ := fun env =>
  match fi env with
  | none => none
  | some (ds, env1) => forL t g ds env1
theorem Go.refl (M : Addr → Prop) (H : Hp) : Go M H M H := ⟨fun _ _ _ h => h, fun _ n _ => n⟩
section
variable {Γ : Gam} {X : Cx} {A : List Nat} {tg iter : Expr} {body : List Stmt} {fi : Ei Γ} {t : Eg Γ} {g : Es Γ} {pos : Pos}
theorem sds_for (hp : PassesOwn (model X.prog X.w) X.A X.env X.xe) (hi : SdI Γ X tg iter fi) (hg : SdG Γ X A tg t) (hb : SdSs Γ X A body g) (hs : ∀ x, foldedSetIterable iter X.env x = pure x := by intro _; rfl) : SdS Γ X A (.For tg iter body [] pos) (mFor fi t g) := by
  refine ⟨?_⟩
  intro hK σ env fl envF w D he E k
  refine wS.of (ps_for hp hK.calm pi_wI pg_wG pss_wSs hs) ?_
  unfold mFor at he
  cases g1 : fi env with
  | none => simp only [g1] at he; cases he
  | some q =>
    obtain ⟨ds, env1⟩ := q
    simp only [g1] at he
    refine hi hK σ env ds env1 w _ g1 E fun J w1 E1 p1 ok1 => ?_
    refine ⟨fun i m σ' H' => m = ds.length - i ∧ i ≤ ds.length ∧ ∃ env' w', w'.H = H' ∧ ER Γ w' σ' env' ∧ Step w w' ∧ ItOk Γ J ds w'.M w'.H ∧ Agree A σ σ' ∧ forL t g (ds.drop i) env' = some (fl, envF),
      ⟨ds.length, rfl, Nat.zero_le _, env1, w1, rfl, E1, p1, ok1, Agree.refl, he⟩, ?_⟩
    rintro i m σ2 H2 ⟨rfl, hi2, env2, w2, rfl, E2, p2, ok2, a2, he2⟩
    by_cases hlt : i < ds.length
    · refine .inr ?_
      have hd : ds[i]? = some ds[i] := List.getElem?_eq_getElem hlt
      rw [List.drop_eq_getElem_cons hlt] at he2
      unfold forL at he2
      obtain ⟨go, yl⟩ := ok2.go w2.M w2.H (Go.refl _ _) E2.dom i _ hd
      cases g2 : t ds[i] env2 with
      | none => simp only [g2] at he2; cases he2
      | some e1 =>
        simp only [g2] at he2
        refine ⟨go, fun σ' H' => ∃ env' w', w'.H = H' ∧ ER Γ w' σ' env' ∧ Step w w' ∧ ItOk Γ J ds w'.M w'.H ∧ Agree A σ σ' ∧ forL t g (ds.drop (i + 1)) env' = some (fl, envF), ?_, ?_⟩
        · rintro σ' H' ⟨env', w', r⟩
          exact ⟨ds.length - (i + 1), by omega, rfl, hlt, env', w', r⟩
        · intro x H3 y
          obtain ⟨ext, hx⟩ := yl x H3 y
          obtain ⟨E3, p3⟩ := E2.grow (Fr := fun _ => False) ext (fun _ z => z.elim)
          have p23 := p2.trans p3 E.dom
          have hx' : Dat Γ (fun a => w2.M a ∨ False) H3 x ds[i] := hx.go go_or
          refine hg hK σ2 env2 ds[i] e1 ⟨fun a => w2.M a ∨ False, w2.F, H3⟩ x _ g2 E3 hx' fun σ4 w4 E4 p4 a4 => ?_
          have p24 := p23.trans p4 E.dom
          have a24 := a2.trans a4
          have ok4 := (ok2.step (E2.go p3)).step (E3.go p4)
          cases g3 : g e1 with
          | none => simp only [g3] at he2; cases he2
          | some q =>
            obtain ⟨fl1, e2⟩ := q
            cases fl1 with
            | nx =>
              simp only [g3] at he2
              exact hb hK σ4 e1 _ e2 w4 _ g3 E4 fun σ5 w5 E5 p5 a5 => ⟨e2, w5, rfl, E5, p24.trans p5 E.dom, ok4.step (E4.go p5), a24.trans a5, he2⟩
            | ct =>
              simp only [g3] at he2
              exact hb hK σ4 e1 _ e2 w4 _ g3 E4 fun σ5 w5 E5 p5 a5 => ⟨e2, w5, rfl, E5, p24.trans p5 E.dom, ok4.step (E4.go p5), a24.trans a5, he2⟩
            | bk =>
              simp only [g3] at he2
              cases he2
              exact hb hK σ4 e1 _ _ w4 _ g3 E4 fun σ5 w5 E5 p5 a5 => k σ5 w5 E5 (p24.trans p5 E.dom) (a24.trans a5)
            | rt s =>
              simp only [g3] at he2
              cases he2
              exact hb hK σ4 e1 _ _ w4 _ g3 E4 fun v σ5 w5 Fr E5 T5 p5 f5 a5 => k v σ5 w5 Fr E5 T5 (p24.trans p5 E.dom) (f5.back p24) (a24.trans a5)
    · have ei : i = ds.length := by omega
      subst ei
      rw [List.drop_length] at he2
      cases he2
      exact .inl ⟨ok2.stop w2.M w2.H (Go.refl _ _), k σ2 w2 E2 p2 a2⟩
end

def nonOwn {Γ : Gam} : Sl Γ → Bool
  | .none => true
  | .dat _ => true
  | .scr _ => true
  | _ => false
def wipeL {Γ : Gam} (env : Env Γ) : List Nat → Env Γ
  | [] => env
  | v :: vs => (wipeL env vs).set v .none
def wipeE {Γ : Gam} (vs : List Nat) (env : Env Γ) : Option (Env Γ) :=
  if (vs.all fun v => match env[v]? with | some s => nonOwn s | none => true) = true then some (wipeL env vs) else none
def backE {Γ : Gam} (env1 env : Env Γ) : List Nat → Env Γ
  | [] => env
  | v :: vs => (backE env1 env vs).set v ((env1[v]?).getD .none)
def compL {Γ : Gam} (vs : List Nat) (t : Eg Γ) (tc : Et Γ) (f : Ev Γ) : List D → Env Γ → Option (List D × Env Γ)
  | [], env => some ([], env)
  | d :: ds, env => match t d env with
    | none => none
    | some e1 => match tc e1 with
      | none => none
      | some (false, e2) => match wipeE vs e2 with
        | none => none
        | some e3 => compL vs t tc f ds e3
      | some (true, e2) => match f e2 with
        | some (.dat y, e3) => match wipeE vs e3 with
          | none => none
          | some e4 => (compL vs t tc f ds e4).map fun p => (y :: p.1, p.2)
        | _ => none
def mLc {Γ : Gam} (fi : Ei Γ) (vs : List Nat) (t : Eg Γ) (tc : Et Γ) (f : Ev Γ) : Ev Γ := fun env =>
  match fi env with
  | none => none
  | some (ds, env1) => if ds.length ≤ sizeLine then
      match wipeE vs env1 with
      | none => none
      | some e2 => match compL vs t tc f ds e2 with
        | none => none
        | some (ys, e3) => some (.lst ys, backE env1 e3 vs)
    else none
section
variable {Γ : Gam} {X : Cx}
theorem wipeL_len (env : Env Γ) : ∀ vs : List Nat, (wipeL env vs).length = env.length
  | [] => rfl
  | v :: vs => by unfold wipeL; rw [List.length_set, wipeL_len env vs]
theorem backE_len (env1 env : Env Γ) : ∀ vs : List Nat, (backE env1 env vs).length = env.length
  | [] => rfl
  | v :: vs => by unfold backE; rw [List.length_set, backE_len env1 env vs]
theorem wipeL_get (env : Env Γ) (j : Nat) : ∀ vs : List Nat, (wipeL env vs)[j]? = if j ∈ vs then (env[j]?).map (fun _ => Sl.none) else env[j]?
  | [] => by simp [wipeL]
  | v :: vs => by
    unfold wipeL
    rw [List.getElem?_set]
    by_cases e : v = j
    · subst e
      simp only [if_true, List.mem_cons_self, wipeL_len]
      by_cases hl : v < env.length
      · simp [hl]
      · simp [hl]
    · rw [if_neg e, wipeL_get env j vs]
      have : (j ∈ v :: vs) ↔ j ∈ vs := by simp [Ne.symm e]
      simp only [this]
theorem wipe_get (σ : St) (j : Nat) : ∀ vs : List Nat, (wipe σ vs)[j]? = if j ∈ vs then (σ[j]?).map (fun _ => none) else σ[j]?
  | [] => by simp [wipe]
  | v :: vs => by
    unfold wipe
    rw [List.getElem?_set]
    by_cases e : v = j
    · subst e
      simp only [if_true, List.mem_cons_self, wipe_length]
      by_cases hl : v < σ.length
      · simp [hl]
      · simp [hl]
    · rw [if_neg e, wipe_get σ j vs]
      have : (j ∈ v :: vs) ↔ j ∈ vs := by simp [Ne.symm e]
      simp only [this]
theorem backE_get (env1 env : Env Γ) (j : Nat) : ∀ vs : List Nat, (backE env1 env vs)[j]? = if j ∈ vs then (env[j]?).map (fun _ => (env1[j]?).getD .none) else env[j]?
  | [] => by simp [backE]
  | v :: vs => by
    unfold backE
    rw [List.getElem?_set]
    by_cases e : v = j
    · subst e
      simp only [if_true, List.mem_cons_self, backE_len]
      by_cases hl : v < env.length
      · simp [hl]
      · simp [hl]
    · rw [if_neg e, backE_get env1 env j vs]
      have : (j ∈ v :: vs) ↔ j ∈ vs := by simp [Ne.symm e]
      simp only [this]
theorem ER.noF {w : Wd} {σ : St} {env : Env Γ} (E : ER Γ w σ env) {j : Nat} (h : ∀ s, env[j]? = some s → nonOwn s = true) : ∀ a, ¬ w.F j a := fun a f => by
  cases e : env[j]? with
  | none => exact E.out j (List.getElem?_eq_none_iff.mp e) a f
  | some s =>
    have hs := h s e
    rcases E.slot j s e with ⟨_, z⟩ | ⟨v, _, r⟩
    · exact z a f
    · cases s with
      | none => exact r
      | dat d => exact r.2 a f
      | scr ns => exact r.2 a f
      | _ => cases hs
theorem wipeE_some {vs : List Nat} {env e : Env Γ} (h : wipeE vs env = some e) : e = wipeL env vs ∧ ∀ j ∈ vs, ∀ s, env[j]? = some s → nonOwn s = true := by
  unfold wipeE at h
  split at h
  · rename_i c
    cases h
    refine ⟨rfl, fun j hj s e => ?_⟩
    have q := List.all_eq_true.mp c j hj
    rw [e] at q
    exact q
  · cases h
theorem ER.wipe {w : Wd} {σ : St} {env e : Env Γ} {vs : List Nat} (E : ER Γ w σ env) (h : wipeE vs env = some e) : ER Γ w (wipe σ vs) e ∧ ∀ j ∈ vs, ∀ a, ¬ w.F j a := by
  obtain ⟨rfl, hn⟩ := wipeE_some h
  refine ⟨⟨by rw [wipeL_len, wipe_length]; exact E.len, fun j s hj => ?_, E.sub, E.dis, E.dom, fun j hj => E.out j (by rw [wipeL_len] at hj; exact hj)⟩, fun j hj => E.noF (hn j hj)⟩
  rw [wipeL_get] at hj
  split at hj
  · rename_i hv
    cases q : env[j]? with
    | none => rw [q] at hj; cases hj
    | some s' =>
      rw [q] at hj
      cases hj
      exact .inl ⟨rfl, E.noF (hn j hv)⟩
  · rename_i hv
    rcases E.slot j s hj with z | ⟨v, ev, r⟩
    · exact .inl z
    · exact .inr ⟨v, by rw [wipe_get, if_neg hv]; exact ev, r⟩
theorem ER.back {w1 w3 : Wd} {σ : St} {env1 e3 : Env Γ} {vs : List Nat} (E1 : ER Γ w1 σ env1) (hn : ∀ j ∈ vs, ∀ s, env1[j]? = some s → nonOwn s = true) (E3 : ER Γ w3 (L2.wipe σ vs) e3) (hF : ∀ j ∈ vs, ∀ a, ¬ w3.F j a) (g : Go w1.M w1.H w3.M w3.H) : ER Γ w3 σ (backE env1 e3 vs) := by
  have hl : e3.length = σ.length := by have := E3.len; rw [wipe_length] at this; exact this
  refine ⟨by rw [backE_len]; exact hl, fun j s hj => ?_, E3.sub, E3.dis, E3.dom, fun j hj => E3.out j (by rw [backE_len] at hj; exact hj)⟩
  rw [backE_get] at hj
  split at hj
  · rename_i hv
    cases q : e3[j]? with
    | none => rw [q] at hj; cases hj
    | some s' =>
      rw [q] at hj
      simp only [Option.map_some, Option.some.injEq] at hj
      subst hj
      cases q1 : env1[j]? with
      | none => exact .inl ⟨rfl, hF j hv⟩
      | some s1 =>
        show SltR Γ w3 σ j s1
        have ns := hn j hv s1 q1
        rcases E1.slot j s1 q1 with ⟨z1, z2⟩ | ⟨v, ev, r⟩
        · exact .inl ⟨z1, hF j hv⟩
        · refine .inr ⟨v, ev, ?_⟩
          cases s1 with
          | none => exact r
          | dat d => exact ⟨r.1.go g, hF j hv⟩
          | scr ns => obtain ⟨⟨a, e, h⟩, _⟩ := r; exact ⟨⟨a, e, h.go g⟩, hF j hv⟩
          | _ => cases ns
  · rename_i hv
    rcases E3.slot j s hj with z | ⟨v, ev, r⟩
    · exact .inl z
    · rw [wipe_get, if_neg hv] at ev
      exact .inr ⟨v, ev, r⟩
theorem agree_wipe {vs : List Nat} {σ σ' : St} (a : Agree vs (wipe σ vs) σ') : wipe σ' vs = wipe σ vs := by
  have hl := a.len
  rw [wipe_length] at hl
  apply List.ext_getElem?
  intro j
  rw [wipe_get, wipe_get]
  split
  · rename_i hv
    by_cases h : j < σ.length
    · rw [List.getElem?_eq_getElem h, List.getElem?_eq_getElem (by rw [hl]; exact h)]; rfl
    · rw [List.getElem?_eq_none_iff.mpr (by omega), List.getElem?_eq_none_iff.mpr (by omega)]
  · rename_i hv
    rw [a.get j hv, wipe_get, if_neg hv]
/-- an owned thing that no slot owns is written -/
theorem ER.write {w : Wd} {σ : St} {env : Env Γ} {p : Addr} {o : HO} (E : ER Γ w σ env) (m : w.M p) (f : ∀ i, ¬ w.F i p) : ER Γ ⟨w.M, w.F, upd w.H p o⟩ σ env ∧ Go w.M w.H w.M (upd w.H p o) := by
  have g : Go w.M w.H w.M (upd w.H p o) := ⟨fun a u n e => by rw [upd_ne (fun (z : a = p) => n (z ▸ m))]; exact e, fun _ n _ => n⟩
  refine ⟨⟨E.len, fun j s hj => ?_, E.sub, E.dis, fun a h => ?_, E.out⟩, g⟩
  · rcases E.slot j s hj with z | ⟨v, ev, r⟩
    · exact .inl z
    · exact .inr ⟨v, ev, r.go g fun a u fa e => by show upd w.H p o a = some u; rw [upd_ne (fun (z : a = p) => f j (z ▸ fa))]; exact e⟩
  · by_cases e : a = p
    · show upd w.H p o a ≠ none
      rw [e, upd_same]; simp
    · show upd w.H p o a ≠ none
      rw [upd_ne e]; exact E.dom a h
theorem Step.write {w w6 : Wd} {p : Addr} {o : HO} (s : Step w w6) (h : w.H p = none) : Step w ⟨w6.M, w6.F, upd w6.H p o⟩ :=
  ⟨fun a u n e => by show upd w6.H p o a = some u; rw [upd_ne (ne_of_none e h)]; exact s.keep a u n e, s.mu, s.src, s.own, fun a e => by
    show upd w6.H p o a ≠ none
    by_cases q : a = p
    · exact absurd (q ▸ h) e
    · rw [upd_ne q]; exact s.live a e⟩
def AllB (X : Cx) (scope : Scope) (P : Cx → Prop) : Prop := ∀ (s : Shared) (H : Hp) (C : Addr) (cl : List (Str × Addr)) (fp : List Addr), P (X.blk s H scope (compEnvC scope cl C X.env) fp)
theorem Gd.blk {scope : Scope} (g : Gd Γ X) : AllB X scope fun Y => Gd Γ Y := fun _ _ _ _ _ => ⟨g.k, g.calm, g.un, g.nd⟩
def bG (X : Cx) (scope : Scope) (tg : Expr) : TG := fun v σ H Q => AllB X scope fun Y => wG Y tg v σ H Q
def bE (X : Cx) (scope : Scope) (e : Expr) : TE := fun σ H Q => AllB X scope fun Y => wE Y e σ H Q
def bT (X : Cx) (scope : Scope) (e : Expr) : TT := fun σ H Q => AllB X scope fun Y => wT Y e σ H Q
inductive SdC (Γ : Gam) (X : Cx) (scope : Scope) : List Expr → TT → Et Γ → Prop
  | nil : SdC Γ X scope [] tYes (fun env => some (true, env))
  | one {c : Expr} {tc : Et Γ} : AllB X scope (fun Y => SdT Γ Y c tc) → SdC Γ X scope [c] (bT X scope c) tc
theorem SdC.run {scope : Scope} {ifs : List Expr} {tt : TT} {tc : Et Γ} (h : SdC Γ X scope ifs tt tc) (hK : Gd Γ X) {σ : St} {env env' : Env Γ} {b : Bool} {w : Wd} {Q : Bool → Hp → Prop} (he : tc env = some (b, env')) (E : ER Γ w σ env) (k : ∀ w', ER Γ w' σ env' → Step w w' → Q b w'.H) : tt σ w.H Q := by
  cases h with
  | nil => cases he; exact k w E (Step.refl w)
  | one hc => exact fun s H C cl fp => hc s H C cl fp (hK.blk s H C cl fp) σ env b env' w Q he E k
theorem SdC.pts {scope : Scope} {ifs : List Expr} {tt : TT} {tc : Et Γ} (h : SdC Γ X scope ifs tt tc) : AllB X scope fun Y => PTs Y ifs tt := fun s H C cl fp => by
  cases h with
  | nil => exact pts_nil
  | one hc => exact pts_one ⟨fun pins s' σ H' Q I q => q s H C cl fp pins s' I⟩
/-- J walks ds in every world that comes behind w by way of w1 -/
structure ItW (Γ : Gam) (J : It) (ds : List D) (w w1 : Wd) : Prop where
  go : ∀ w', Step w w' → Go w1.M w1.H w'.M w'.H → (∀ a, w'.M a → w'.H a ≠ none) → ∀ i d, ds[i]? = some d → J.go i w'.H ∧ ∀ x H2, J.yld i w'.H x H2 → (∀ a u, w'.H a = some u → H2 a = some u) ∧ Dat Γ w'.M H2 x d
  stop : ∀ w', Step w w' → Go w1.M w1.H w'.M w'.H → J.stop ds.length w'.H
theorem ItOk.w {J : It} {ds : List D} {w w1 : Wd} (h : ItOk Γ J ds w1.M w1.H) : ItW Γ J ds w w1 := ⟨fun w' _ g dom => h.go w'.M w'.H g dom, fun w' _ g => h.stop w'.M w'.H g⟩
theorem lc_runX {tg iter elt : Expr} {scope : Scope} {ifs : List Expr} {tt : TT} {tc : Et Γ} {fi : Ei Γ} {t : Eg Γ} {f : Ev Γ} {vs : List Nat} {σ : St} {env envF : Env Γ} {r : Sl Γ} {w : Wd} {Q : VK} (hK : Gd Γ X)
    (hi : ∀ ds env1, fi env = some (ds, env1) → ∀ R : It → Hp → Prop, (∀ J w1, ER Γ w1 σ env1 → Step w w1 → ItW Γ J ds w w1 → R J w1.H) → wI X tg iter σ w.H R) (hg : AllB X scope fun Y => SdG Γ Y vs tg t) (hc : SdC Γ X scope ifs tt tc) (hf : AllB X scope fun Y => SdE Γ Y elt f) (he : mLc fi vs t tc f env = some (r, envF)) (E : ER Γ w σ env)
    (k : ∀ v w' Fr, ER Γ w' σ envF → TR Γ w' v r Fr → Step w w' → Fresh w Fr → Q v w'.H) : tLc (wI X tg iter) (bG X scope tg) tt (bE X scope elt) vs σ w.H Q := by
  unfold mLc at he
  cases g1 : fi env with
  | none => simp only [g1] at he; cases he
  | some q =>
    obtain ⟨ds, env1⟩ := q
    simp only [g1] at he
    split at he
    · rename_i hlen
      cases g2 : wipeE vs env1 with
      | none => simp only [g2] at he; cases he
      | some e2 =>
        simp only [g2] at he
        cases g3 : compL vs t tc f ds e2 with
        | none => simp only [g3] at he; cases he
        | some q =>
          obtain ⟨ys, e3⟩ := q
          simp only [g3] at he
          cases he
          refine hi ds env1 g1 _ fun J w1 E1 p1 ok1 => ?_
          intro Dd hD
          have hDw : w.H Dd = none := by
            cases q : w.H Dd with
            | none => rfl
            | some u => exact absurd hD (p1.live Dd (by rw [q]; simp))
          obtain ⟨E1w, hF1⟩ := E1.wipe g2
          obtain ⟨E1g, p1g⟩ := E1w.grow (Fr := fun a => a = Dd) (H' := upd w1.H Dd (.lst [])) (upd_keep hD) (fun a z => by subst z; exact ⟨hD, by rw [upd_same]; simp⟩)
          have hn1 := (wipeE_some g2).2
          refine ⟨fun i m H' => m = ds.length - i ∧ i ≤ ds.length ∧ ∃ env' w' acc accD ys2, w'.H = H' ∧ ER Γ w' (L2.wipe σ vs) env' ∧ (∀ j ∈ vs, ∀ a, ¬ w'.F j a) ∧ Step w w' ∧ Go w1.M w1.H w'.M w'.H ∧ w'.H Dd = some (.lst acc) ∧ Dats Γ w'.M w'.H acc accD ∧ w'.M Dd ∧ (∀ j, ¬ w'.F j Dd) ∧ accD.length ≤ i ∧ compL vs t tc f (ds.drop i) env' = some (ys2, e3) ∧ ys = accD ++ ys2,
            ⟨ds.length, rfl, Nat.zero_le _, e2, ⟨fun a => w1.M a ∨ a = Dd, w1.F, upd w1.H Dd (.lst [])⟩, [], [], ys, rfl, E1g, hF1, p1.trans p1g E.dom, E1w.go p1g, upd_same, .nil, .inr rfl, fun j z => E1.dom Dd (E1.sub j Dd z) hD, Nat.zero_le _, g3, rfl⟩, ?_⟩
          rintro i m H2 ⟨rfl, hi2, env2, w2, acc, accD, ys2, rfl, E2, hF2, p2, go2, hD2, r2, m2, o2, l2, he2, ey⟩
          by_cases hlt : i < ds.length
          · refine .inr ?_
            have hd : ds[i]? = some ds[i] := List.getElem?_eq_getElem hlt
            rw [List.drop_eq_getElem_cons hlt] at he2
            unfold compL at he2
            obtain ⟨go, yl⟩ := ok1.go w2 p2 go2 E2.dom i _ hd
            cases g4 : t ds[i] env2 with
            | none => simp only [g4] at he2; cases he2
            | some e4 =>
              simp only [g4] at he2
              refine ⟨go, fun H' => ∃ env' w' acc accD ys2, w'.H = H' ∧ ER Γ w' (L2.wipe σ vs) env' ∧ (∀ j ∈ vs, ∀ a, ¬ w'.F j a) ∧ Step w w' ∧ Go w1.M w1.H w'.M w'.H ∧ w'.H Dd = some (.lst acc) ∧ Dats Γ w'.M w'.H acc accD ∧ w'.M Dd ∧ (∀ j, ¬ w'.F j Dd) ∧ accD.length ≤ i + 1 ∧ compL vs t tc f (ds.drop (i + 1)) env' = some (ys2, e3) ∧ ys = accD ++ ys2, ?_, ?_⟩
              · rintro H' ⟨env', w', rr⟩
                exact ⟨ds.length - (i + 1), by omega, rfl, hlt, env', w', rr⟩
              · intro x H3 y
                obtain ⟨ext, hx⟩ := yl x H3 y
                obtain ⟨E3, p3⟩ := E2.grow (Fr := fun _ => False) ext (fun _ z => z.elim)
                have hx' : Dat Γ (fun a => w2.M a ∨ False) H3 x ds[i] := hx.go go_or
                intro s5 H5 C5 cl5 fp5
                refine hg s5 H5 C5 cl5 fp5 (hK.blk s5 H5 C5 cl5 fp5) (L2.wipe σ vs) env2 ds[i] e4 ⟨fun a => w2.M a ∨ False, w2.F, H3⟩ x _ g4 E3 hx' fun σ4 w4 E4 p4 a4 => ?_
                have ew := agree_wipe a4
                refine ⟨ew, ?_⟩
                cases g5 : tc e4 with
                | none => simp only [g5] at he2; cases he2
                | some q =>
                  obtain ⟨b, e5⟩ := q
                  simp only [g5] at he2
                  refine hc.run hK g5 E4 fun w5 E5 p5 => ?_
                  have p25 : Step w2 w5 := (p3.trans p4 E2.dom).trans p5 E2.dom
                  cases b with
                  | false =>
                    rw [if_neg Bool.false_ne_true]
                    cases g6 : wipeE vs e5 with
                    | none => simp only [g6] at he2; cases he2
                    | some e6 =>
                      simp only [g6] at he2
                      obtain ⟨E6, hF6⟩ := E5.wipe g6
                      rw [ew] at E6
                      exact ⟨e6, w5, acc, accD, ys2, rfl, E6, hF6, p2.trans p25 E.dom, go2.trans (E2.go p25), p25.keep Dd _ o2 hD2, r2.go (E2.go p25), p25.mu Dd o2 m2, p25.off o2 (by rw [hD2]; simp), by omega, he2, ey⟩
                  | true =>
                    rw [if_pos rfl]
                    intro s6 H6 C6 cl6 fp6
                    simp only at he2
                    cases g6 : f e5 with
                    | none => simp only [g6] at he2; cases he2
                    | some q =>
                      obtain ⟨sy, e6⟩ := q
                      cases sy with
                      | dat y =>
                        simp only [g6] at he2
                        cases g7 : wipeE vs e6 with
                        | none => simp only [g7] at he2; cases he2
                        | some e7 =>
                          simp only [g7] at he2
                          cases g8 : compL vs t tc f (ds.drop (i + 1)) e7 with
                          | none => rw [g8] at he2; cases he2
                          | some q =>
                            obtain ⟨ys3, e8⟩ := q
                            rw [g8] at he2
                            cases he2
                            refine hf s6 H6 C6 cl6 fp6 (hK.blk s6 H6 C6 cl6 fp6) σ4 e5 _ e6 w5 _ g6 E5 fun v w6 Fr E6 T6 p6 f6 => ?_
                            have p26 := p25.trans p6 E2.dom
                            have o6 := p26.off o2 (by rw [hD2]; simp)
                            have m6 := p26.mu Dd o2 m2
                            obtain ⟨E7, hF7⟩ := E6.wipe g7
                            rw [ew] at E7
                            obtain ⟨E8, go8⟩ := E7.write (o := .lst (acc ++ [v])) m6 o6
                            have r6 := r2.go (E2.go p26)
                            refine ⟨acc, p26.keep Dd _ o2 hD2, by have := r2.length; omega, e7, ⟨w6.M, w6.F, upd w6.H Dd (.lst (acc ++ [v]))⟩, acc ++ [v], accD ++ [y], ys3, rfl, E8, hF7, (p2.trans p26 E.dom).write hDw, (go2.trans (E2.go p26)).trans go8, upd_same, (r6.append (.cons T6.rep.1 .nil)).go go8, m6, o6, by rw [List.length_append]; simp; omega, g8, by rw [ey]; simp⟩
                      | _ => simp only [g6] at he2; cases he2
          · have ei : i = ds.length := by omega
            subst ei
            rw [List.drop_length] at he2
            cases he2
            rw [List.append_nil] at ey
            subst ey
            refine .inl ⟨ok1.stop w2 p2 go2, ?_⟩
            exact k (.ref Dd) w2 (fun a => a = Dd) (E1.back hn1 E2 hF2 go2) ⟨⟨Dd, acc, rfl, hD2, r2, fun a => Iff.rfl⟩, fun a z => z ▸ m2, fun a j z => z ▸ o2 j⟩ p2 fun a z => .inr (z ▸ hDw)
    · cases he
theorem lc_run {tg iter elt : Expr} {scope : Scope} {ifs : List Expr} {tt : TT} {tc : Et Γ} {fi : Ei Γ} {t : Eg Γ} {f : Ev Γ} {vs : List Nat} {σ : St} {env envF : Env Γ} {r : Sl Γ} {w : Wd} {Q : VK} (hK : Gd Γ X)
    (hi : SdI Γ X tg iter fi) (hg : AllB X scope fun Y => SdG Γ Y vs tg t) (hc : SdC Γ X scope ifs tt tc) (hf : AllB X scope fun Y => SdE Γ Y elt f) (he : mLc fi vs t tc f env = some (r, envF)) (E : ER Γ w σ env)
    (k : ∀ v w' Fr, ER Γ w' σ envF → TR Γ w' v r Fr → Step w w' → Fresh w Fr → Q v w'.H) : tLc (wI X tg iter) (bG X scope tg) tt (bE X scope elt) vs σ w.H Q :=
  lc_runX hK (fun ds env1 g R k => hi hK σ env ds env1 w R g E fun J w1 E1 p1 ok => k J w1 E1 p1 ok.w) hg hc hf he E k
end
end G

set_option maxHeartbeats 4000000
namespace G
open PySem L2
section
variable {Γ : Gam} {X : Cx} {A : List Nat}
theorem sd_lc {tg iter elt : Expr} {scope : Scope} {own : List (Str × Nat)} {ifs : List Expr} {tt : TT} {tc : Et Γ} {fi : Ei Γ} {t : Eg Γ} {f : Ev Γ} {pos : Pos} (ok : BlkOk X.N X.env.scope scope own)
    (hi : SdI Γ X tg iter fi) (hg : AllB X scope fun Y => SdG Γ Y (own.map (·.2)) tg t) (hc : SdC Γ X scope ifs tt tc) (hf : AllB X scope fun Y => SdE Γ Y elt f) (hs : ∀ x, foldedSetIterable iter X.env x = pure x := by intro _; rfl) :
    SdE Γ X (.ListComp elt [⟨tg, iter, ifs, 0⟩] scope pos) (mLc fi (own.map (·.2)) t tc f) :=
  .mk fun hK σ env r env' w Q he E k => wE.of (pe_lc (te := bE X scope elt) (g := bG X scope tg) hK.calm hK.nd pi_wI ok (fun s H C cl fp => ⟨fun pins s' σ H' v u Q I r h => h s H C cl fp u pins s' r I⟩) hc.pts (fun s H C cl fp => ⟨fun pins s' σ H' Q I h => h s H C cl fp pins s' I⟩) hs) (lc_run hK hi hg hc hf he E k)
theorem sds_setLc (i : Nat) {y : Str} {py : Pos} {tg iter elt : Expr} {scope : Scope} {own : List (Str × Nat)} {ifs : List Expr} {tt : TT} {tc : Et Γ} {fi : Ei Γ} {t : Eg Γ} {f : Ev Γ} {pos spos : Pos} (hA : i ∈ A) (hy : X.N[i]? = some y) (hyl : X.env.scope.names.lookup y = some .local)
    (hsw : swapsWith (.ListComp elt [⟨tg, iter, ifs, 0⟩] scope pos) (some (.Name y py)) spos.line X.env = pure true) (ok : BlkOk X.N X.env.scope scope own)
    (hi : SdI Γ X tg iter fi) (hg : AllB X scope fun Y => SdG Γ Y (own.map (·.2)) tg t) (hc : SdC Γ X scope ifs tt tc) (hf : AllB X scope fun Y => SdE Γ Y elt f) (hs : ∀ x, foldedSetIterable iter X.env x = pure x := by intro _; rfl) :
    SdS Γ X A (.Assign [.Name y py] (.ListComp elt [⟨tg, iter, ifs, 0⟩] scope pos) spos) (mSet i (mLc fi (own.map (·.2)) t tc f)) := by
  refine ⟨?_⟩
  intro hK σ env fl env' w D he E k
  refine wS.of (ps_setLc (te := bE X scope elt) (g := bG X scope tg) hK.calm hK.nd hy hyl hsw pi_wI ok (fun s H C cl fp => ⟨fun pins s' σ H' v u Q I r h => h s H C cl fp u pins s' r I⟩) hc.pts (fun s H C cl fp => ⟨fun pins s' σ H' Q I h => h s H C cl fp pins s' I⟩) hs) ?_
  unfold mSet at he
  cases g1 : mLc fi (own.map (·.2)) t tc f env with
  | none => simp only [g1] at he; cases he
  | some q =>
    obtain ⟨s, env1⟩ := q
    simp only [g1] at he
    split at he
    · rename_i hl
      cases he
      refine lc_run hK hi hg hc hf g1 E fun v w1 Fr E1 T1 p1 f1 => ?_
      exact k _ ⟨w1.M, fun j a => if j = i then Fr a else w1.F j a, w1.H⟩ (E1.set T1 hl) (p1.set f1) (Agree.set hA)
    · cases he

theorem ER.put {w : Wd} {σ : St} {env : Env Γ} {i : Nat} {ds ds' : List D} {p : Addr} {vs' : List V} (E : ER Γ w σ env) (h : env[i]? = some (.lst ds)) (hv : σ[i]? = some (some (.ref p))) (fp : ∀ a, w.F i a ↔ a = p) (r : Dats Γ w.M w.H vs' ds') :
    ER Γ ⟨w.M, w.F, upd w.H p (.lst vs')⟩ σ (env.set i (.lst ds')) ∧ Step w ⟨w.M, w.F, upd w.H p (.lst vs')⟩ := by
  have il : i < env.length := (List.getElem?_eq_some_iff.mp h).1
  have mp : w.M p := E.sub i p ((fp p).mpr rfl)
  have g : Go w.M w.H w.M (upd w.H p (.lst vs')) := ⟨fun a u n e => by rw [upd_ne (fun (z : a = p) => n (z ▸ mp))]; exact e, fun _ n _ => n⟩
  refine ⟨⟨by rw [List.length_set]; exact E.len, fun j s hj => ?_, E.sub, E.dis, fun a m => ?_, fun j hj => E.out j (by rw [List.length_set] at hj; exact hj)⟩,
    ⟨fun a u n e => by show upd w.H p (.lst vs') a = some u; rw [upd_ne (fun (z : a = p) => n i ((fp a).mpr z))]; exact e, fun _ _ m => m, fun _ m => .inl m, fun j _ f => .inl ⟨j, f⟩, fun a e => ?_⟩⟩
  · by_cases e : j = i
    · subst e
      rw [List.getElem?_set_self il] at hj
      cases hj
      exact .inr ⟨_, hv, p, vs', rfl, upd_same, r.go g, fp⟩
    · rw [List.getElem?_set_ne (Ne.symm e)] at hj
      rcases E.slot j s hj with z | ⟨v, ev, rv⟩
      · exact .inl z
      · refine .inr ⟨v, ev, rv.go g fun a u fa q => ?_⟩
        show upd w.H p (.lst vs') a = some u
        rw [upd_ne (fun (z : a = p) => e (E.dis j i a fa ((fp a).mpr z)))]
        exact q
  · show upd w.H p (.lst vs') a ≠ none
    by_cases e : a = p
    · rw [e, upd_same]; simp
    · rw [upd_ne e]; exact E.dom a m
  · show upd w.H p (.lst vs') a ≠ none
    by_cases e' : a = p
    · rw [e', upd_same]; simp
    · rw [upd_ne e']; exact e
/-- a method of a list by data: the list before, the arguments; the answer, the list behind -/
def MutOk (Γ : Gam) (r : V → List V → Hp → VK → Prop) (u : List D → List (Sl Γ) → Option (D × List D)) : Prop :=
  ∀ (M : Addr → Prop) (H : Hp) (p : Addr) (vs : List V) (ds : List D) (xs : List V) (ss : List (Sl Γ)) (res : D) (ds' : List D) (Q : VK), M p → H p = some (.lst vs) → Dats Γ M H vs ds → SRs Γ M H xs ss → u ds ss = some (res, ds') →
    (∀ y vs', Dats Γ M H vs' ds' → (∀ M' H', Go M H M' H' → Dat Γ M' H' y res) → Q y (upd H p (.lst vs'))) → r (.ref p) xs H Q
def mMut {Γ : Gam} (i : Nat) (u : List D → List (Sl Γ) → Option (D × List D)) (as : List (AE Γ)) : Ev Γ := fun env =>
  match env[i]? with
  | some (.lst _) => match evAs as env with
    | none => none
    | some (xs, env1) => match peeks xs env1, env1[i]? with
      | some ss, some (.lst ds) => (u ds ss).map fun q => (.dat q.1, env1.set i (.lst q.2))
      | _, _ => none
  | _ => none
theorem mut_run {r : V → List V → Hp → VK → Prop} {u : List D → List (Sl Γ) → Option (D × List D)} {i : Nat} {es : List Expr} {as : List (AE Γ)} {σ : St} {env env' : Env Γ} {s : Sl Γ} {w : Wd} {Q : VK} (hK : Gd Γ X) (hu : MutOk Γ r u) (ha : SdL Γ X es as) (he : mMut i u as env = some (s, env')) (E : ER Γ w σ env)
    (k : ∀ v w' Fr, ER Γ w' σ env' → TR Γ w' v s Fr → Step w w' → Fresh w Fr → Q v w'.H) : ∃ v, σ[i]? = some (some v) ∧ tyV X.K "list" v w.H ∧ wL X es σ w.H fun xs H2 => r v xs H2 Q := by
  unfold mMut at he
  split at he
  · rename_i ds0 g0
    obtain ⟨v, ev, p0, vs0, rfl, hp0, r0, n0⟩ := E.at (i := i) (s := .lst ds0) (by rw [g0]; rfl)
    refine ⟨_, ev, .inl ⟨rfl, vs0, SqL.of hp0⟩, ?_⟩
    cases g1 : evAs as env with
    | none => simp only [g1] at he; cases he
    | some q =>
      obtain ⟨xs, env1⟩ := q
      simp only [g1] at he
      split at he
      · rename_i ss ds g2 g3
        cases g4 : u ds ss with
        | none => rw [g4] at he; cases he
        | some q =>
          obtain ⟨res, ds'⟩ := q
          rw [g4] at he
          cases he
          refine sdl_run hK ha g1 E fun vs w1 Frs E1 A1 p1 f1 => ?_
          obtain ⟨v1, ev1, p, us, rfl, hp, rp, n⟩ := E1.at (i := i) (s := .lst ds) (by rw [g3]; rfl)
          have ep : p = p0 := by rw [ev] at ev1; cases ev1; rfl
          subst ep
          refine hu w1.M w1.H p us ds vs ss res ds' Q (E1.sub i p ((n p).mpr rfl)) hp rp (A1.peeks E1 g2) g4 fun y vs' r' hy => ?_
          obtain ⟨E2, p2⟩ := E1.put (ds' := ds') (vs' := vs') g3 ev n r'
          exact k y ⟨w1.M, w1.F, upd w1.H p (.lst vs')⟩ (fun _ => False) E2 (TR.dat (hy _ _ (E1.go p2))) (p1.trans p2 E.dom) fun _ z => z.elim
      · cases he
  · cases he
variable {e : Expr} {es : List Expr} {as : List (AE Γ)} {x name : Str} {npos apos cpos : Pos} {id : String}
/-- x.name(e, ..), x a local that owns a list -/
theorem sd_mut {r : V → List V → Hp → VK → Prop} {u : List D → List (Sl Γ) → Option (D × List D)} (i : Nat) (slot : Slot "list" name id) (hty : typeOf (.builtin id) = pure (.type "method_descriptor")) (rule : MtR X id r) (hu : MutOk Γ r u) (hN : X.N[i]? = some x) (hv : Vis X.env.scope x) (ha : SdL Γ X (e :: es) as)
    (hd : (x == ("__debug__" : Str)) = false := by decide) (hcd : (x == ("__classdict__" : Str)) = false := by decide)
    (hbase : attributeBase (.Name x npos) name X.env (eval (.Name x npos) X.env) = eval (.Name x npos) X.env := by rfl)
    (hfew : ((backTo cpos (starEach (e :: es) X.env)).all (fun x => !x.1) && (backToKw cpos (keywordEach [] X.env)).all (fun x => x.1.isSome) && decide ((e :: es).length + ([] : List Keyword).length + (if ([] : List Keyword).isEmpty then 0 else 1) < 30)) = true := by rfl)
    (hline : (apos.endLine == cpos.line) = true := by rfl) (hplain : (backTo cpos (starEach es X.env)).any (·.1) = false := by rfl) :
    SdE Γ X (.Call (.Attribute (.Name x npos) name apos) (e :: es) [] cpos) (mMut i u as) :=
  .mk fun hK σ env s env' w Q he E k => wE.of (pe_bm PySem.F.plainAttrs_list slot hty rule (pe_var hN hv hd hcd) (pa_wL ha.ns) hbase hfew hline (ha.ns e List.mem_cons_self es) hplain) (mut_run hK hu ha he E k)
theorem sd_mut0 {r : V → List V → Hp → VK → Prop} {u : List D → List (Sl Γ) → Option (D × List D)} (i : Nat) (slot : Slot "list" name id) (hty : typeOf (.builtin id) = pure (.type "method_descriptor")) (rule : MtR X id r) (hu : MutOk Γ r u) (hN : X.N[i]? = some x) (hv : Vis X.env.scope x)
    (hd : (x == ("__debug__" : Str)) = false := by decide) (hcd : (x == ("__classdict__" : Str)) = false := by decide)
    (hbase : attributeBase (.Name x npos) name X.env (eval (.Name x npos) X.env) = eval (.Name x npos) X.env := by rfl) (hline : (apos.endLine == cpos.line) = true := by rfl) :
    SdE Γ X (.Call (.Attribute (.Name x npos) name apos) [] [] cpos) (mMut i u []) :=
  .mk fun hK σ env s env' w Q he E k => wE.of (pe_bm0 PySem.F.plainAttrs_list slot hty rule (pe_var hN hv hd hcd) hbase hline) (mut_run hK hu .nil he E k)
def uAppend {Γ : Gam} (ds : List D) : List (Sl Γ) → Option (D × List D)
  | [.dat d] => if ds.length < sizeLine then some (.non, ds ++ [d]) else none
  | _ => none
theorem uAppend_ok : MutOk Γ rAppend uAppend := by
  intro M H p vs ds xs ss res ds' Q mp hp r hs hu k
  unfold uAppend at hu
  split at hu
  · rename_i d
    split at hu
    · rename_i hl
      cases hu
      cases hs with
      | cons h1 r1 =>
        cases r1
        exact ⟨p, vs, _, rfl, rfl, hp, by rw [r.length]; exact hl, k _ _ (r.append (.cons h1.1 .nil)) fun _ _ _ => .non⟩
    · cases hu
  · cases hu
def uPop {Γ : Gam} (ds : List D) : List (Sl Γ) → Option (D × List D)
  | [] => (ds[ds.length - 1]?).map fun d => (d, ds.dropLast)
  | [s] => match asInt s with
    | some i => if 0 ≤ i ∧ i < 2 ^ 62 then (ds[i.toNat]?).map fun d => (d, ds.eraseIdx i.toNat) else none
    | none => none
  | _ => none
theorem dropLast_dats {M : Addr → Prop} {H : Hp} {vs : List V} {ds : List D} (r : Dats Γ M H vs ds) : Dats Γ M H vs.dropLast ds.dropLast := by
  rw [List.dropLast_eq_take, List.dropLast_eq_take, r.length]
  exact r.take _
theorem seqIndex_nat {i : Int} {n : Nat} (h0 : 0 ≤ i) (h1 : i.toNat < n) : seqIndex? i n = some i.toNat := by
  have q : ixN n i = some i.toNat := by
    unfold ixN
    rw [if_pos h0, if_pos (by omega)]
  exact (ixN_seq q).1
theorem uPop_ok : MutOk Γ (fun x xs H Q => rPop x xs H Q ∨ rPopAt x xs H Q) uPop := by
  intro M H p vs ds xs ss res ds' Q mp hp r hs hu k
  unfold uPop at hu
  split at hu
  · cases hs
    cases g : ds[ds.length - 1]? with
    | none => rw [g] at hu; cases hu
    | some d =>
      rw [g] at hu
      cases hu
      obtain ⟨v, ev, hv⟩ := r.get g
      exact .inl ⟨p, vs, v, rfl, rfl, hp, by rw [r.length]; exact ev, k _ _ (dropLast_dats r) fun _ _ g => hv.go g⟩
  · rename_i s
    split at hu
    · rename_i i gi
      split at hu
      · rename_i hi
        cases g : ds[i.toNat]? with
        | none => rw [g] at hu; cases hu
        | some d =>
          rw [g] at hu
          cases hu
          cases hs with
          | cons h1 r1 =>
            cases r1
            cases h1.int (asInt_some gi)
            obtain ⟨v, ev, hv⟩ := r.get g
            have hl := (List.getElem?_eq_some_iff.mp ev).1
            exact .inr ⟨p, vs, i, i.toNat, v, rfl, rfl, hp, by omega, by omega, seqIndex_nat hi.1 hl, ev, k _ _ (r.eraseIdx _) fun _ _ g => hv.go g⟩
      · cases hu
    · cases hu
  · cases hu
theorem mt_popAll : MtR X "list.pop" (fun x xs H Q => rPop x xs H Q ∨ rPopAt x xs H Q) := MtR.or mt_pop mt_popAt
def uClear {Γ : Gam} (ds : List D) : List (Sl Γ) → Option (D × List D)
  | [] => some (.non, [])
  | _ => none
theorem uClear_ok : MutOk Γ rClear uClear := by
  intro M H p vs ds xs ss res ds' Q mp hp r hs hu k
  unfold uClear at hu
  split at hu
  · cases hu; cases hs; exact ⟨p, vs, rfl, rfl, hp, k _ _ .nil fun _ _ _ => .non⟩
  · cases hu
def uExtend {Γ : Gam} (ds : List D) : List (Sl Γ) → Option (D × List D)
  | [.dat (.lst es)] => if ds.length + es.length ≤ sizeLine then some (.non, ds ++ es) else none
  | _ => none
theorem uExtend_ok : MutOk Γ rExtend uExtend := by
  intro M H p vs ds xs ss res ds' Q mp hp r hs hu k
  unfold uExtend at hu
  split at hu
  · rename_i es
    split at hu
    · rename_i hl
      cases hu
      cases hs with
      | cons h1 r1 =>
        cases r1
        obtain ⟨q, ws, rfl, hq, r'⟩ := h1.lstW (ds := es) rfl (fun _ z => by cases z)
        exact ⟨p, q, vs, ws, rfl, rfl, hp, hq, by rw [r.length, r'.length]; exact hl, k _ _ (r.append r') fun _ _ _ => .non⟩
    · cases hu
  · cases hu
/-- x[k] = e, x a local that owns a list -/
def mSetIx {Γ : Gam} (i : Nat) (fe fk : Ev Γ) : Es Γ := fun env =>
  match fe env with
  | some (.dat d, env1) => match env1[i]? with
    | some (.lst _) => match fk env1 with
      | some (.dat (.int k), env2) => match env2[i]? with
        | some (.lst ds) => (ixN ds.length k).map fun j => (.nx, env2.set i (.lst (ds.set j d)))
        | _ => none
      | _ => none
    | _ => none
  | _ => none
theorem sds_setIx (i : Nat) {ke : Expr} {fe fk : Ev Γ} {tpos pos : Pos} (hN : X.N[i]? = some x) (hv : Vis X.env.scope x) (he' : SdE Γ X e fe) (hk : SdE Γ X ke fk) (hd : (x == ("__debug__" : Str)) = false := by decide) (hcd : (x == ("__classdict__" : Str)) = false := by decide)
    (ha : ∀ v, assign (.Subscript (.Name x npos) ke tpos) X.env v = (do
      let ov ← holding [v] (eval (.Name x npos) X.env)
      let iv ← holding [v, ov] (eval ke X.env)
      standAt tpos
      holding [v, ov, iv] (setItem ov iv v)
      release [v, ov, iv] []) := by intro _; rfl) (hs : swapsWithSole [.Subscript (.Name x npos) ke tpos] e pos.line X.env = pure false := by rfl) (hw : swappedStores [.Subscript (.Name x npos) ke tpos] e X.env = pure none := by rfl)
    (h1 : (assignEach [.Subscript (.Name x npos) ke tpos] X.env).map (·.2) = [assign (.Subscript (.Name x npos) ke tpos) X.env] := by rfl) : SdS Γ X A (.Assign [.Subscript (.Name x npos) ke tpos] e pos) (mSetIx i fe fk) := by
  refine ⟨?_⟩
  intro hK σ env fl env' w D he E k
  refine wS.of (ps_asg pe_wE (pg_sub (pe_var hN hv hd hcd) pe_wE set_list ha) hs hw h1) ?_
  unfold mSetIx at he
  split at he
  · rename_i d env1 g1
    split at he
    · rename_i ds0 g2
      split at he
      · rename_i kk env2 g3
        split at he
        · rename_i ds g4
          cases g5 : ixN ds.length kk with
          | none => rw [g5] at he; cases he
          | some j =>
            rw [g5] at he
            cases he
            refine he' hK σ env _ _ w _ g1 E fun v w1 Fr E1 T1 p1 f1 => ?_
            obtain ⟨v0, ev0, _⟩ := E1.at (i := i) (s := .lst ds0) (by rw [g2]; rfl)
            refine ⟨v0, ev0, ?_⟩
            refine hk hK σ env1 _ _ w1 _ g3 E1 fun u w2 Fr2 E2 T2 p2 f2 => ?_
            obtain ⟨v2, ev2, p, us, rfl, hp, rp, n⟩ := E2.at (i := i) (s := .lst ds) (by rw [g4]; rfl)
            rw [ev0] at ev2
            cases ev2
            cases T2.rep.int rfl
            have hv1 : Dat Γ w2.M w2.H v d := T1.rep.1.go (E1.go p2)
            refine ⟨p, us, kk, j, rfl, rfl, hp, by rw [rp.length]; exact g5, ?_⟩
            obtain ⟨E3, p3⟩ := E2.put (ds' := ds.set j d) (vs' := us.set j v) g4 ev0 n (rp.set hv1 j)
            exact k σ ⟨w2.M, w2.F, upd w2.H p (.lst (us.set j v))⟩ E3 ((p1.trans p2 E.dom).trans p3 E.dom) Agree.refl
        · cases he
      · cases he
    · cases he
  · cases he
/-- return x, x a local: what x owns goes out -/
def mRetMv {Γ : Gam} (i : Nat) : Es Γ := fun env =>
  match env[i]? with
  | some .none => none
  | some s => some (.rt s, env.set i .none)
  | none => none
theorem sds_retMv (i : Nat) {pos : Pos} (hN : X.N[i]? = some x := by rfl) (hv : Vis X.env.scope x := by first | exact Or.inl rfl | exact Or.inr (Or.inl rfl) | exact Or.inr (Or.inr rfl)) (hd : (x == ("__debug__" : Str)) = false := by decide) (hcd : (x == ("__classdict__" : Str)) = false := by decide) : SdS Γ X A (.Return (some (.Name x npos)) pos) (mRetMv i) := by
  refine ⟨?_⟩
  intro hK σ env fl env' w D he E k
  refine wS.of (ps_ret (pe_var hN hv hd hcd)) ?_
  unfold mRetMv at he
  split at he
  · cases he
  · rename_i s hs g
    cases he
    obtain ⟨v, ev, rv⟩ := E.at (i := i) (s := s) (by
      rw [g]
      cases s with
      | none => exact absurd rfl hs
      | _ => rfl)
    have il : i < env.length := (List.getElem?_eq_some_iff.mp g).1
    refine ⟨v, ev, ?_⟩
    refine k v σ ⟨w.M, fun j a => w.F j a ∧ j ≠ i, w.H⟩ (w.F i) ⟨by rw [List.length_set]; exact E.len, fun j t hj => ?_, fun j a f => E.sub j a f.1, fun j l a f f' => E.dis j l a f.1 f'.1, E.dom, fun j hj a f => E.out j (by rw [List.length_set] at hj; exact hj) a f.1⟩
      ⟨rv, fun a f => E.sub i a f, fun a j f z => z.2 (E.dis j i a z.1 f)⟩ ⟨fun _ _ _ q => q, fun _ _ m => m, fun _ m => .inl m, fun j _ f => .inl ⟨j, f.1⟩, fun _ q => q⟩ (fun a f => .inl ⟨i, f⟩) Agree.refl
    by_cases e : j = i
    · subst e
      rw [List.getElem?_set_self il] at hj
      cases hj
      exact .inl ⟨rfl, fun a z => z.2 rfl⟩
    · rw [List.getElem?_set_ne (Ne.symm e)] at hj
      have ef : (fun a => w.F j a ∧ j ≠ i) = w.F j := by funext a; exact propext ⟨fun z => z.1, fun z => ⟨z, e⟩⟩
      rcases E.slot j t hj with ⟨z1, z2⟩ | ⟨u, eu, ru⟩
      · exact .inl ⟨z1, fun a f => z2 a f.1⟩
      · exact .inr ⟨u, eu, ru.to (Go.refl _ _) ef⟩
  · cases he
end
end G

set_option maxHeartbeats 4000000
namespace G
open PySem L2

abbrev Fn (Γ : Gam) := List (Sl Γ) → Option (Sl Γ × List (Sl Γ))
/-- a def's promise by data: the arguments before, the answer, the arguments behind -/
def spG (Γ : Gam) (np : Nat) (g : Fn Γ) : Sp := fun vs H Q _ => ∃ (args : List (Sl Γ)) (r : Sl Γ) (args' : List (Sl Γ)) (w : Wd), g args = some (r, args') ∧ args.length = np ∧ w.H = H ∧ ER Γ w (vs.map some) args ∧
  ∀ v w' Fr, ER Γ w' (vs.map some) args' → TR Γ w' v r Fr → Step w w' → Fresh w Fr → Q v w'.H
def mFun {Γ : Gam} (np loc : Nat) (A : List Nat) (body : Es Γ) : Fn Γ := fun args =>
  if args.length = np ∧ ((A.filter (· < np)).all fun i => match args[i]? with | some s => nonOwn s | none => true) = true then
    match body (args ++ List.replicate loc .none) with
    | some (.rt s, env') => some (s, backE args (env'.take np) (A.filter (· < np)))
    | some (.nx, env') => some (.dat .non, backE args (env'.take np) (A.filter (· < np)))
    | _ => none
  else none
section
variable {Γ : Gam}
theorem ER.extend {w : Wd} {vs : List V} {args : List (Sl Γ)} (E : ER Γ w (vs.map some) args) (n : Nat) : ER Γ w (vs.map some ++ List.replicate n none) (args ++ List.replicate n .none) := by
  have hl : args.length = vs.length := by have := E.len; rw [List.length_map] at this; exact this
  refine ⟨by simp [hl], fun i s h => ?_, E.sub, E.dis, E.dom, fun i hi => E.out i (by rw [List.length_append] at hi; omega)⟩
  by_cases hi : i < args.length
  · rw [List.getElem?_append_left hi] at h
    rcases E.slot i s h with z | ⟨v, ev, r⟩
    · exact .inl z
    · exact .inr ⟨v, by rw [List.getElem?_append_left (by rw [List.length_map]; omega)]; exact ev, r⟩
  · rw [List.getElem?_append_right (by omega)] at h
    have hs : s = .none := by
      have := List.getElem?_replicate (n := n) (a := (Sl.none : Sl Γ)) (i := i - args.length)
      rw [this] at h
      split at h
      · cases h; rfl
      · cases h
    exact .inl ⟨hs, E.out i (by omega)⟩
theorem ER.cut {w w' : Wd} {vs : List V} {args env' : List (Sl Γ)} {σ' : St} {A : List Nat} {n : Nat} (E : ER Γ w (vs.map some) args) (E' : ER Γ w' σ' env') (p : Step w w') (a : Agree A (vs.map some ++ List.replicate n none) σ')
    (hA : ((A.filter (· < args.length)).all fun i => match args[i]? with | some s => nonOwn s | none => true) = true) :
    ER Γ ⟨w'.M, fun i x => i < args.length ∧ i ∉ A ∧ w'.F i x, w'.H⟩ (vs.map some) (backE args (env'.take args.length) (A.filter (· < args.length))) := by
  have hl : args.length = vs.length := by have := E.len; rw [List.length_map] at this; exact this
  have hl' : args.length ≤ env'.length := by
    have h1 := E'.len
    have h2 := a.len
    rw [List.length_append, List.length_map] at h2
    omega
  have lb : (backE args (env'.take args.length) (A.filter (· < args.length))).length = args.length := by
    rw [backE_len, List.length_take]; omega
  refine ⟨by rw [lb, List.length_map]; exact hl, fun i s h => ?_, fun i x f => E'.sub i x f.2.2, fun i j x f f' => E'.dis i j x f.2.2 f'.2.2, E'.dom, fun i hi x f => ?_⟩
  · have hi : i < args.length := by rw [← lb]; exact (List.getElem?_eq_some_iff.mp h).1
    rw [backE_get] at h
    by_cases hiA : i ∈ A
    · rw [if_pos (List.mem_filter.mpr ⟨hiA, by simpa using hi⟩)] at h
      rw [List.getElem?_take_of_lt hi] at h
      have hs : s = args[i] := by
        rw [List.getElem?_eq_getElem hi] at h
        cases q : env'[i]? with
        | none => rw [q] at h; cases h
        | some t => rw [q] at h; exact (Option.some.inj h).symm
      have no : nonOwn args[i] = true := by
        have := List.all_eq_true.mp hA i (List.mem_filter.mpr ⟨hiA, by simpa using hi⟩)
        rw [List.getElem?_eq_getElem hi] at this
        exact this
      subst hs
      have nF : ∀ x, ¬ (i < args.length ∧ i ∉ A ∧ w'.F i x) := fun x f => f.2.1 hiA
      rcases E.slot i _ (List.getElem?_eq_getElem hi) with ⟨z1, z2⟩ | ⟨v, ev, r⟩
      · exact .inl ⟨z1, nF⟩
      · refine .inr ⟨v, ev, ?_⟩
        have g := E.go p
        generalize args[i] = s at no r
        cases s with
        | none => exact r
        | dat d => exact ⟨r.1.go g, nF⟩
        | scr ns => obtain ⟨⟨b, e, h⟩, _⟩ := r; exact ⟨⟨b, e, h.go g⟩, nF⟩
        | _ => cases no
    · rw [if_neg (fun z => hiA (List.mem_filter.mp z).1), List.getElem?_take_of_lt hi] at h
      have ef : (fun x => i < args.length ∧ i ∉ A ∧ w'.F i x) = w'.F i := by funext x; exact propext ⟨fun z => z.2.2, fun z => ⟨hi, hiA, z⟩⟩
      rcases E'.slot i s h with ⟨z1, z2⟩ | ⟨v, ev, r⟩
      · exact .inl ⟨z1, fun x f => z2 x f.2.2⟩
      · rw [a.get i hiA, List.getElem?_append_left (by rw [List.length_map]; omega)] at ev
        exact .inr ⟨v, ev, r.to (Go.refl _ _) ef⟩
  · rw [lb] at hi
    exact absurd f.1 (by omega)
theorem Step.cut {w w' : Wd} {P : Nat → Prop} (p : Step w w') : Step w ⟨w'.M, fun i x => P i ∧ w'.F i x, w'.H⟩ := ⟨p.keep, p.mu, p.src, fun i a f => p.own i a f.2, p.live⟩
/-- a def of the text keeps its promise by data, by its body's derivation -/
theorem fn_ok {P : Program} {w : World} {mg : Str → Option Value} {base : Heap} {x qual : Str} {st : Stmt} {f : Addr} {fd : FuncData} {N ps : List Str} {k : Nat} {A : List Nat} {body : Es Γ} (F : Fun Γ.K x qual st f fd) (S : FnScope N ps (defScope st))
    (hb : ∀ (cdv : Value) (Ar : Around) (outer : List PySem.Env) (s : Shared) (H : Hp) (E : XK), Room k (Ar.deeper (PyProof.Rows.envOfC qual (defScope st) s.heap.objs.size f cdv)) → SdSs Γ (cxOf CX0 P w Γ.K mg base N qual (defScope st) f cdv Ar outer s H E).nox A (defBody st) body) :
    FnOk P w Γ.K mg base CX0 (k + 1) f fd ps (spG Γ ps.length (mFun ps.length (N.length - ps.length) A body)) := by
  refine F.ok S (fun vs H Q E h => ?_) (fun cdv Ar outer s H vs Q E hr h => ?_)
  · obtain ⟨args, r, args', w, _, hl, _, Er, _⟩ := h
    have := Er.len
    rw [List.length_map] at this
    omega
  · obtain ⟨args, r, args', w1, hg, hl, rfl, Er, k1⟩ := h
    have hlv : vs.length = ps.length := by have := Er.len; rw [List.length_map] at this; omega
    unfold mFun at hg
    split at hg
    · rename_i hc
      refine ⟨_, pss_wSs, ?_⟩
      have es : L2.start N vs = vs.map some ++ List.replicate (N.length - ps.length) none := by unfold L2.start; rw [hlv]
      have Gx : Gd Γ (cxOf CX0 P w Γ.K mg base N qual (defScope st) f cdv Ar outer s w1.H E).nox := ⟨rfl, rfl, by have := hr.un; show (Ar.deeper (PyProof.Rows.envOfC qual (defScope st) s.heap.objs.size f cdv)).units + 65 < cLine; omega, S.nd⟩
      have E0 := Er.extend (N.length - ps.length)
      rw [es]
      split at hg
      · rename_i s1 env' g1
        cases hg
        refine hb cdv Ar outer s w1.H E hr Gx _ _ _ _ w1 _ g1 E0 fun v σ' w' Fr E' T' p' f' a' => ?_
        have hc2 := hc.2
        rw [← hl] at hc2
        have E2 := Er.cut E' p' a' hc2
        exact k1 v ⟨w'.M, fun i x => i < args.length ∧ i ∉ A ∧ w'.F i x, w'.H⟩ Fr (by rw [← hl]; exact E2) ⟨T'.rep, T'.sub, fun a i z q => T'.off a i z q.2.2⟩ ⟨p'.keep, p'.mu, p'.src, fun i a q => p'.own i a q.2.2, p'.live⟩ f'
      · rename_i env' g1
        cases hg
        refine hb cdv Ar outer s w1.H E hr Gx _ _ _ _ w1 _ g1 E0 fun σ' w' E' p' a' => ?_
        have hc2 := hc.2
        rw [← hl] at hc2
        have E2 := Er.cut E' p' a' hc2
        exact k1 .non ⟨w'.M, fun i x => i < args.length ∧ i ∉ A ∧ w'.F i x, w'.H⟩ (fun _ => False) (by rw [← hl]; exact E2) (TR.dat .non) ⟨p'.keep, p'.mu, p'.src, fun i a q => p'.own i a q.2.2, p'.live⟩ fun _ z => z.elim
      · cases hg
    · cases hg
end
end G

set_option maxHeartbeats 4000000
namespace G
open PySem L2

def takeA {Γ : Gam} : List (Ag Γ) → Env Γ → Option (List (Sl Γ) × Env Γ × List (Option Nat))
  | [], env => some ([], env, [])
  | .val s :: xs, env => (takeA xs env).map fun q => (s :: q.1, q.2.1, none :: q.2.2)
  | .brw i :: xs, env => match got env[i]? with
    | none => none
    | some s => if nonOwn s = true then (takeA xs env).map fun q => (s :: q.1, q.2.1, none :: q.2.2)
      else (takeA xs (env.set i .none)).map fun q => (s :: q.1, q.2.1, some i :: q.2.2)
def putA {Γ : Gam} : List (Option Nat) → List (Sl Γ) → Env Γ → Env Γ
  | some i :: bs, s :: ss, env => (putA bs ss env).set i s
  | none :: bs, _ :: ss, env => putA bs ss env
  | _, _, env => env
def mCall {Γ : Gam} (np : Nat) (g : Fn Γ) (as : List (AE Γ)) : Ev Γ := fun env =>
  match evAs as env with
  | none => none
  | some (xs, env1) => match takeA xs env1 with
    | none => none
    | some (args, env2, bs) => if args.length = np then
        match g args with
        | none => none
        | some (r, args') => some (r, putA bs args' env2)
      else none
section
variable {Γ : Gam} {X : Cx} {σ : St}
theorem ER.moved {w : Wd} {env : Env Γ} (E : ER Γ w σ env) (i : Nat) : ER Γ ⟨w.M, fun j a => w.F j a ∧ j ≠ i, w.H⟩ σ (env.set i .none) := by
  refine ⟨by rw [List.length_set]; exact E.len, fun j t hj => ?_, fun j a f => E.sub j a f.1, fun j l a f f' => E.dis j l a f.1 f'.1, E.dom, fun j hj a f => E.out j (by rw [List.length_set] at hj; exact hj) a f.1⟩
  by_cases e : j = i
  · subst e
    by_cases il : j < env.length
    · rw [List.getElem?_set_self il] at hj
      cases hj
      exact .inl ⟨rfl, fun a z => z.2 rfl⟩
    · rw [List.getElem?_eq_none_iff.mpr (by rw [List.length_set]; omega)] at hj
      cases hj
  · rw [List.getElem?_set_ne (Ne.symm e)] at hj
    have ef : (fun a => w.F j a ∧ j ≠ i) = w.F j := by funext a; exact propext ⟨fun z => z.1, fun z => ⟨z, e⟩⟩
    rcases E.slot j t hj with ⟨z1, z2⟩ | ⟨u, eu, ru⟩
    · exact .inl ⟨z1, fun a f => z2 a f.1⟩
    · exact .inr ⟨u, eu, ru.to (Go.refl _ _) ef⟩
theorem SR.none_own {M : Addr → Prop} {H : Hp} {v : V} {s : Sl Γ} {Fr : Addr → Prop} (h : SR Γ M H v s Fr) (n : nonOwn s = true) : ∀ a, ¬ Fr a := by
  cases s with
  | none => exact h.elim
  | dat d => exact h.2
  | scr ns => exact h.2
  | _ => cases n
/-- one more argument in front -/
theorem ER.consArg {w : Wd} {F : Nat → Addr → Prop} {vs : List V} {args : List (Sl Γ)} {v : V} {s : Sl Γ} {Fr : Addr → Prop} (E : ER Γ ⟨w.M, F, w.H⟩ (vs.map some) args) (r : SR Γ w.M w.H v s Fr) (sub : ∀ a, Fr a → w.M a) (dis : ∀ a j, Fr a → ¬ F j a) :
    ER Γ ⟨w.M, fun j a => match j with | 0 => Fr a | j + 1 => F j a, w.H⟩ ((v :: vs).map some) (s :: args) := by
  refine ⟨by have := E.len; simp at this ⊢; exact this, fun j t hj => ?_, fun j a f => ?_, fun j l a f f' => ?_, E.dom, fun j hj a f => ?_⟩
  · cases j with
    | zero => cases hj; exact .inr ⟨v, rfl, r⟩
    | succ j =>
      rcases E.slot j t (by simpa using hj) with z | ⟨u, eu, ru⟩
      · exact .inl z
      · exact .inr ⟨u, by simpa using eu, ru⟩
  · cases j with
    | zero => exact sub a f
    | succ j => exact E.sub j a f
  · cases j with
    | zero =>
      cases l with
      | zero => rfl
      | succ l => exact absurd f' (dis a l f)
    | succ j =>
      cases l with
      | zero => exact absurd f (dis a j f')
      | succ l => rw [E.dis j l a f f']
  · cases j with
    | zero => simp at hj
    | succ j => exact E.out j (by simpa using hj) a f
theorem ER.same {w : Wd} {F F' : Nat → Addr → Prop} {env : Env Γ} (E : ER Γ ⟨w.M, F, w.H⟩ σ env) (e : ∀ j, F' j = F j) : ER Γ ⟨w.M, F', w.H⟩ σ env := by
  have : F' = F := funext e
  rw [this]
  exact E
theorem ARs.moved {w : Wd} (l : Nat) : ∀ {vs : List V} {xs : List (Ag Γ)} {Frs : List (Addr → Prop)}, ARs Γ w σ vs xs Frs → ARs Γ ⟨w.M, fun j a => w.F j a ∧ j ≠ l, w.H⟩ σ vs xs Frs
  | _, _, _, .nil => .nil
  | _, _, _, .cons (a := a) h d r => .cons (by
      cases a with
      | brw i => exact h
      | val s => exact ⟨h.rep, h.sub, fun a i f z => h.off a i f z.1⟩) d (ARs.moved l r)
theorem ARs.offs {w : Wd} : ∀ {vs : List V} {xs : List (Ag Γ)} {Frs : List (Addr → Prop)}, ARs Γ w σ vs xs Frs → ∀ G ∈ Frs, ∀ a, G a → ∀ i, ¬ w.F i a
  | _, _, _, .nil, G, hG => nomatch hG
  | _, _, _, .cons (a := x) h d r, G, hG => fun a ga i => by
    rcases List.mem_cons.mp hG with z | z
    · subst z
      cases x with
      | brw j => exact absurd ga (h.2 a)
      | val s => exact h.off a i ga
    · exact ARs.offs r G z a ga i
theorem take_ok : ∀ {xs : List (Ag Γ)} {vs : List V} {Frs : List (Addr → Prop)} {env : Env Γ} {w : Wd} {args : List (Sl Γ)} {env2 : Env Γ} {bs : List (Option Nat)}, ER Γ w σ env → ARs Γ w σ vs xs Frs → takeA xs env = some (args, env2, bs) →
    ∃ (Fc F2 : Nat → Addr → Prop), ER Γ ⟨w.M, Fc, w.H⟩ (vs.map some) args ∧ ER Γ ⟨w.M, F2, w.H⟩ σ env2 ∧ (∀ j a, Fc j a → (∃ i, w.F i a) ∨ ∃ G ∈ Frs, G a) ∧ (∀ i a, F2 i a → w.F i a) ∧ (∀ j i a, Fc j a → ¬ F2 i a) ∧
      bs.length = vs.length ∧ (∀ (j i : Nat), bs[j]? = some (some i) → ∃ v, vs[j]? = some v ∧ σ[i]? = some (some v) ∧ i < env2.length)
  | [], vs, Frs, env, w, args, env2, bs, E, A, h => by
    cases A
    cases h
    refine ⟨fun _ _ => False, w.F, ⟨rfl, fun i s h => by simp at h, fun _ _ f => f.elim, fun _ _ _ f => f.elim, E.dom, fun _ _ _ f => f⟩, E, fun _ _ f => f.elim, fun _ _ f => f, fun _ _ _ f => f.elim, rfl, fun j i h => by simp at h⟩
  | .val s :: xs, vs, Frs, env, w, args, env2, bs, E, A, h => by
    cases A with
    | @cons v vs a as Fr Frs hA hd A =>
      unfold takeA at h
      cases g : takeA xs env with
      | none => rw [g] at h; cases h
      | some q =>
        obtain ⟨args1, env3, bs1⟩ := q
        rw [g] at h
        cases h
        obtain ⟨Fc, F2, q1, q2, q3, q4, q5, q6, q7⟩ := take_ok E A g
        have T : TR Γ w v s Fr := hA
        refine ⟨fun j a => match j with | 0 => Fr a | j + 1 => Fc j a, F2, ER.consArg q1 T.rep T.sub fun a j f f' => ?_, q2, fun j a f => ?_, q4, fun j i a f f' => ?_, by simp [q6], fun j i hb => ?_⟩
        · rcases q3 j a f' with ⟨i, z⟩ | ⟨G, hG, z⟩
          · exact T.off a i f z
          · exact hd G hG a f z
        · cases j with
          | zero => exact .inr ⟨Fr, List.mem_cons_self, f⟩
          | succ j =>
            rcases q3 j a f with z | ⟨G, hG, z⟩
            · exact .inl z
            · exact .inr ⟨G, List.mem_cons_of_mem _ hG, z⟩
        · cases j with
          | zero => exact T.off a i f (q4 i a f')
          | succ j => exact q5 j i a f f'
        · cases j with
          | zero => cases hb
          | succ j =>
            obtain ⟨u, h1, h2⟩ := q7 j i (by simpa using hb)
            exact ⟨u, by simpa using h1, h2⟩
  | .brw l :: xs, vs, Frs, env, w, args, env2, bs, E, A, h => by
    cases A with
    | @cons v vs a as Fr Frs hA hd A =>
      unfold takeA at h
      cases g0 : got env[l]? with
      | none => simp only [g0] at h; cases h
      | some s =>
        simp only [g0] at h
        obtain ⟨v0, ev0, r0⟩ := E.at g0
        have hv : v = v0 := by
          have h1 := hA.1
          rw [ev0] at h1
          cases h1
          rfl
        subst hv
        split at h
        · rename_i no
          cases g : takeA xs env with
          | none => rw [g] at h; cases h
          | some q =>
            obtain ⟨args1, env3, bs1⟩ := q
            rw [g] at h
            cases h
            obtain ⟨Fc, F2, q1, q2, q3, q4, q5, q6, q7⟩ := take_ok E A g
            have nF := r0.none_own no
            refine ⟨fun j a => match j with | 0 => w.F l a | j + 1 => Fc j a, F2, ER.consArg q1 r0 (fun a f => E.sub l a f) (fun a j f f' => nF a f), q2, fun j a f => ?_, q4, fun j i a f f' => ?_, by simp [q6], fun j i hb => ?_⟩
            · cases j with
              | zero => exact .inl ⟨l, f⟩
              | succ j =>
                rcases q3 j a f with z | ⟨G, hG, z⟩
                · exact .inl z
                · exact .inr ⟨G, List.mem_cons_of_mem _ hG, z⟩
            · cases j with
              | zero => exact nF a f
              | succ j => exact q5 j i a f f'
            · cases j with
              | zero => cases hb
              | succ j =>
                obtain ⟨u, h1, h2⟩ := q7 j i (by simpa using hb)
                exact ⟨u, by simpa using h1, h2⟩
        · cases g : takeA xs (env.set l .none) with
          | none => rw [g] at h; cases h
          | some q =>
            obtain ⟨args1, env3, bs1⟩ := q
            rw [g] at h
            cases h
            have E' := E.moved l
            have A' := A.moved l
            obtain ⟨Fc, F2, q1, q2, q3, q4, q5, q6, q7⟩ := take_ok E' A' g
            refine ⟨fun j a => match j with | 0 => w.F l a | j + 1 => Fc j a, F2, ER.consArg q1 r0 (fun a f => E.sub l a f) (fun a j f f' => ?_), q2, fun j a f => ?_, fun i a f => (q4 i a f).1, fun j i a f f' => ?_, by simp [q6], fun j i hb => ?_⟩
            · rcases q3 j a f' with ⟨i, z⟩ | ⟨G, hG, z⟩
              · exact z.2 (E.dis i l a z.1 f)
              · exact A.offs G hG a z l f
            · cases j with
              | zero => exact .inl ⟨l, f⟩
              | succ j =>
                rcases q3 j a f with ⟨i, z⟩ | ⟨G, hG, z⟩
                · exact .inl ⟨i, z.1⟩
                · exact .inr ⟨G, List.mem_cons_of_mem _ hG, z⟩
            · cases j with
              | zero => exact (q4 i a f').2 (E.dis i l a (q4 i a f').1 f)
              | succ j => exact q5 j i a f f'
            · cases j with
              | zero =>
                cases hb
                refine ⟨v, rfl, ev0, ?_⟩
                have h1 : env3.length = σ.length := q2.len
                have h3 := (List.getElem?_eq_some_iff.mp ev0).1
                show l < env3.length
                omega
              | succ j =>
                obtain ⟨u, h1, h2⟩ := q7 j i (by simpa using hb)
                exact ⟨u, by simpa using h1, h2⟩
theorem List.set_self' {α : Type} {l : List α} {i : Nat} {a : α} (h : l[i]? = some a) : l.set i a = l := by
  apply List.ext_getElem?
  intro j
  rw [List.getElem?_set]
  by_cases e : i = j
  · subst e
    rw [if_pos rfl, h, if_pos (List.getElem?_eq_some_iff.mp h).1]
  · rw [if_neg e]
theorem putA_len : ∀ (bs : List (Option Nat)) (ss : List (Sl Γ)) (env : Env Γ), (putA bs ss env).length = env.length
  | some i :: bs, s :: ss, env => by unfold putA; rw [List.length_set, putA_len bs ss env]
  | none :: bs, _ :: ss, env => by unfold putA; exact putA_len bs ss env
  | [], _, _ => by unfold putA; rfl
  | some _ :: _, [], _ => by unfold putA; rfl
  | none :: _, [], _ => by unfold putA; rfl
theorem put_ok : ∀ (bs : List (Option Nat)) (ss : List (Sl Γ)) (vs : List V) (Gs : Nat → Addr → Prop) (w : Wd) (env : Env Γ), ER Γ w σ env →
    (∀ (j : Nat) (s : Sl Γ), ss[j]? = some s → (s = .none ∧ ∀ a, ¬ Gs j a) ∨ ∃ v, vs[j]? = some v ∧ SR Γ w.M w.H v s (Gs j)) → (∀ j a, Gs j a → w.M a ∧ ∀ i, ¬ w.F i a) → (∀ j j' a, Gs j a → Gs j' a → j = j') →
    (∀ (j i : Nat), bs[j]? = some (some i) → ∃ v, vs[j]? = some v ∧ σ[i]? = some (some v) ∧ i < env.length) →
    ∃ F', ER Γ ⟨w.M, F', w.H⟩ σ (putA bs ss env) ∧ ∀ i a, F' i a → w.F i a ∨ ∃ j, bs[j]? = some (some i) ∧ Gs j a
  | [], ss, vs, Gs, w, env, E, hs, hG, hd, hb => ⟨w.F, by unfold putA; exact E, fun i a f => .inl f⟩
  | b :: bs, [], vs, Gs, w, env, E, hs, hG, hd, hb => ⟨w.F, by cases b <;> (unfold putA; exact E), fun i a f => .inl f⟩
  | none :: bs, s :: ss, vs, Gs, w, env, E, hs, hG, hd, hb => by
    obtain ⟨F', E', h'⟩ := put_ok bs ss vs.tail (fun j => Gs (j + 1)) w env E (fun j t e => by
        rcases hs (j + 1) t (by simpa using e) with z | ⟨v, e1, r⟩
        · exact .inl z
        · exact .inr ⟨v, by rw [List.getElem?_tail]; exact e1, r⟩) (fun j a g => hG (j + 1) a g) (fun j j' a g g' => by have := hd (j + 1) (j' + 1) a g g'; omega) (fun j i e => by
        obtain ⟨v, e1, e2⟩ := hb (j + 1) i (by simpa using e)
        exact ⟨v, by rw [List.getElem?_tail]; exact e1, e2⟩)
    exact ⟨F', by unfold putA; exact E', fun i a f => (h' i a f).imp id fun ⟨j, b, g⟩ => ⟨j + 1, by simpa using b, g⟩⟩
  | some l :: bs, s :: ss, vs, Gs, w, env, E, hs, hG, hd, hb => by
    obtain ⟨F', E', h'⟩ := put_ok bs ss vs.tail (fun j => Gs (j + 1)) w env E (fun j t e => by
        rcases hs (j + 1) t (by simpa using e) with z | ⟨v, e1, r⟩
        · exact .inl z
        · exact .inr ⟨v, by rw [List.getElem?_tail]; exact e1, r⟩) (fun j a g => hG (j + 1) a g) (fun j j' a g g' => by have := hd (j + 1) (j' + 1) a g g'; omega) (fun j i e => by
        obtain ⟨v, e1, e2⟩ := hb (j + 1) i (by simpa using e)
        exact ⟨v, by rw [List.getElem?_tail]; exact e1, e2⟩)
    obtain ⟨v, e1, e2, e3⟩ := hb 0 l rfl
    rcases hs 0 s rfl with ⟨z1, z2⟩ | ⟨v', e1', r⟩
    · subst z1
      have E2 := E'.moved l
      refine ⟨fun j a => F' j a ∧ j ≠ l, by unfold putA; exact E2, fun i a f => (h' i a f.1).imp id fun ⟨j, b, g⟩ => ⟨j + 1, by simpa using b, g⟩⟩
    · rw [e1] at e1'
      cases e1'
      have T : TR Γ ⟨w.M, F', w.H⟩ v s (Gs 0) := ⟨r, fun a g => (hG 0 a g).1, fun a i g f => by
        rcases h' i a f with z | ⟨j, _, z⟩
        · exact (hG 0 a g).2 i z
        · have := hd 0 (j + 1) a g z; omega⟩
      have E2 := E'.set T (i := l) (by rw [putA_len]; exact e3)
      rw [List.set_self' e2] at E2
      refine ⟨fun j a => if j = l then Gs 0 a else F' j a, by unfold putA; exact E2, fun i a f => ?_⟩
      have f' : (if i = l then Gs 0 a else F' i a) := f
      split at f'
      · rename_i ei
        exact .inr ⟨0, by rw [ei]; rfl, f'⟩
      · exact (h' i a f').imp id fun ⟨j, b, g⟩ => ⟨j + 1, by simpa using b, g⟩
theorem call_coreX {np : Nat} {g : Fn Γ} {env env1 env2 : Env Γ} {xs : List (Ag Γ)} {vs : List V} {Frs : List (Addr → Prop)} {args args' : List (Sl Γ)} {bs : List (Option Nat)} {r : Sl Γ} {w w1 : Wd} {Q : VK} {E0 : XK} (E : ER Γ w σ env) (p1 : Step w w1) (E1 : ER Γ w1 σ env1) (A1 : ARs Γ w1 σ vs xs Frs) (f1 : ∀ G ∈ Frs, Fresh w G)
    (g2 : takeA xs env1 = some (args, env2, bs)) (hn : args.length = np) (g3 : g args = some (r, args')) (k : ∀ v w' Fr, ER Γ w' σ (putA bs args' env2) → TR Γ w' v r Fr → Step w w' → Fresh w Fr → (∀ (j : Nat) (s : Sl Γ), args'[j]? = some s → bs[j]? = some none → s = .none ∨ ∃ u G, vs[j]? = some u ∧ TR Γ w' u s G ∧ Fresh w G) → Q v w'.H) : spG Γ np g vs w1.H Q E0 := by
  obtain ⟨Fc, F2, Ec, E2, c1, c2, c3, c4, c5⟩ := take_ok E1 A1 g2
  refine ⟨args, r, args', ⟨w1.M, Fc, w1.H⟩, g3, hn, rfl, Ec, fun v wc Fr Ec' T' pc fc => ?_⟩
  -- the slots that were not lent
  have gc := Ec.go pc
  have keep2 : ∀ i a u, F2 i a → w1.H a = some u → wc.H a = some u := fun i a u f e => pc.keep a u (fun j z => c3 j i a z f) e
  have E3 : ER Γ ⟨wc.M, F2, wc.H⟩ σ env2 := by
    refine ⟨E2.len, fun i s hs => ?_, fun i a f => pc.mu a (fun j z => c3 j i a z f) (E2.sub i a f), E2.dis, Ec'.dom, E2.out⟩
    rcases E2.slot i s hs with z | ⟨u, eu, ru⟩
    · exact .inl z
    · exact .inr ⟨u, eu, ru.go gc fun a o f e => keep2 i a o f e⟩
  have off2 : ∀ a, ((∃ j, Fc j a) ∨ w1.H a = none) → ∀ i, ¬ F2 i a := fun a h i f => by
    rcases h with ⟨j, z⟩ | z
    · exact c3 j i a z f
    · exact E2.dom a (E2.sub i a f) z
  obtain ⟨F', E4, h4⟩ := put_ok bs args' vs wc.F ⟨wc.M, F2, wc.H⟩ env2 E3 (fun j s hs => by
      rcases Ec'.slot j s hs with z | ⟨u, eu, ru⟩
      · exact .inl z
      · refine .inr ⟨u, ?_, ru⟩
        rw [List.getElem?_map] at eu
        cases q : vs[j]? with
        | none => rw [q] at eu; cases eu
        | some x => rw [q] at eu; cases eu; rfl)
    (fun j a f => ⟨Ec'.sub j a f, off2 a (pc.own j a f)⟩) Ec'.dis c5
  have fw : ∀ a, ((∃ j, Fc j a) ∨ w1.H a = none) → (∃ i, w.F i a) ∨ w.H a = none := fun a h => by
    have back : w1.H a = none → w.H a = none := fun z => by
      cases q : w.H a with
      | none => rfl
      | some u => exact absurd z (p1.live a (by rw [q]; simp))
    rcases h with ⟨j, z⟩ | z
    · rcases c1 j a z with ⟨i, y⟩ | ⟨G, hG, y⟩
      · exact p1.own i a y
      · exact f1 G hG a y
    · exact .inr (back z)
  have nFc : ∀ a, (∀ i, ¬ w.F i a) → w.H a ≠ none → ∀ j, ¬ Fc j a := fun a h hn j z => (fw a (.inl ⟨j, z⟩)).elim (fun ⟨i, y⟩ => h i y) hn
  refine k v ⟨wc.M, F', wc.H⟩ Fr E4 ⟨T'.rep, T'.sub, fun a i f z => ?_⟩ ⟨fun a u h e => ?_, fun a h m => ?_, fun a m => ?_, fun i a f => ?_, fun a h => ?_⟩ (fun a f => fw a (fc a f)) ?_
  · rcases h4 i a z with y | ⟨j, _, y⟩
    · exact off2 a (fc a f) i y
    · exact T'.off a j f y
  · exact pc.keep a u (nFc a h (by rw [e]; simp)) (p1.keep a u h e)
  · exact pc.mu a (nFc a h (E.dom a m)) (p1.mu a h m)
  · rcases pc.src a m with z | z
    · exact p1.src a z
    · refine .inr ?_
      cases q : w.H a with
      | none => rfl
      | some u => exact absurd z (p1.live a (by rw [q]; simp))
  · rcases h4 i a f with y | ⟨j, _, y⟩
    · exact p1.own i a (c2 i a y)
    · exact fw a (pc.own j a y)
  · exact pc.live a (p1.live a h)
  · intro j s hs hb
    rcases Ec'.slot j s hs with ⟨z, _⟩ | ⟨u, eu, ru⟩
    · exact .inl z
    · refine .inr ⟨u, wc.F j, ?_, ⟨ru, fun a f => Ec'.sub j a f, fun a i f z => ?_⟩, fun a f => fw a (pc.own j a f)⟩
      · rw [List.getElem?_map] at eu
        cases q : vs[j]? with
        | none => rw [q] at eu; cases eu
        | some x => rw [q] at eu; cases eu; rfl
      · rcases h4 i a z with y | ⟨j', b, y⟩
        · exact off2 a (pc.own j a f) i y
        · have ej := Ec'.dis j' j a y f
          subst ej
          rw [hb] at b
          cases b
theorem call_core {np : Nat} {g : Fn Γ} {env env1 env2 : Env Γ} {xs : List (Ag Γ)} {vs : List V} {Frs : List (Addr → Prop)} {args args' : List (Sl Γ)} {bs : List (Option Nat)} {r : Sl Γ} {w w1 : Wd} {Q : VK} {E0 : XK} (E : ER Γ w σ env) (p1 : Step w w1) (E1 : ER Γ w1 σ env1) (A1 : ARs Γ w1 σ vs xs Frs) (f1 : ∀ G ∈ Frs, Fresh w G)
    (g2 : takeA xs env1 = some (args, env2, bs)) (hn : args.length = np) (g3 : g args = some (r, args')) (k : ∀ v w' Fr, ER Γ w' σ (putA bs args' env2) → TR Γ w' v r Fr → Step w w' → Fresh w Fr → Q v w'.H) : spG Γ np g vs w1.H Q E0 := by
  exact call_coreX E p1 E1 A1 f1 g2 hn g3 fun v w' Fr a b c d _ => k v w' Fr a b c d
theorem call_run {np : Nat} {g : Fn Γ} {es : List Expr} {as : List (AE Γ)} {env env' : Env Γ} {r : Sl Γ} {w : Wd} {Q : VK} {E0 : XK} (hK : Gd Γ X) (ha : SdL Γ X es as) (he : mCall np g as env = some (r, env')) (E : ER Γ w σ env)
    (k : ∀ v w' Fr, ER Γ w' σ env' → TR Γ w' v r Fr → Step w w' → Fresh w Fr → Q v w'.H) : wL X es σ w.H fun vs H1 => spG Γ np g vs H1 Q E0 := by
  unfold mCall at he
  cases g1 : evAs as env with
  | none => simp only [g1] at he; cases he
  | some q =>
    obtain ⟨xs, env1⟩ := q
    simp only [g1] at he
    cases g2 : takeA xs env1 with
    | none => simp only [g2] at he; cases he
    | some q =>
      obtain ⟨args, env2, bs⟩ := q
      simp only [g2] at he
      split at he
      · rename_i hn
        cases g3 : g args with
        | none => simp only [g3] at he; cases he
        | some q =>
          obtain ⟨r1, args'⟩ := q
          simp only [g3] at he
          cases he
          exact sdl_run hK ha g1 E fun vs w1 Frs E1 A1 p1 f1 => call_core E p1 E1 A1 f1 g2 hn g3 k
      · cases he
/-- a def of the text as it may be called -/
structure Df (Γ : Gam) (X : Cx) (x : Str) (np : Nat) (g : Fn Γ) : Prop where
  ex : ∃ k f fd ps, FnOk X.prog X.w X.K X.mg X.base CX0 k f fd ps (spG Γ np g) ∧ Room k X.A ∧ X.mg x = some (.ref f) ∧ PySem.W.keepIn X.K (.ref f) = true ∧ Binds X.K fd ps []
theorem sd_call {x : Str} {np : Nat} {g : Fn Γ} {e : Expr} {es : List Expr} {as : List (AE Γ)} {p pos : Pos} (h : Df Γ X x np g) (hg : Gl X x) (ha : SdL Γ X (e :: es) as) (hdb : (x == ("__debug__" : Str)) = false := by decide) (hpl : (backTo pos (starEach es X.env)).any (·.1) = false := by rfl) :
    SdE Γ X (.Call (.Name x p) (e :: es) [] pos) (mCall np g as) := by
  obtain ⟨k, f, fd, ps, h1, h2, h3, h4, h5⟩ := h
  refine ⟨?_⟩
  intro hK σ env r env' w Q he E k
  refine wE.of (pe_call (E := E0) h1 h2 hg h3 h4 h5 .nil pass0 (pa_wL ha.ns) hdb (ha.ns e List.mem_cons_self es) hpl) ?_
  unfold tCall
  simp only [List.append_nil]
  exact call_run hK ha he E k
end
end G

set_option maxHeartbeats 4000000
namespace G
open PySem L2

def D.ty : D → Option String
  | .non => some "NoneType"
  | .bl _ => some "bool"
  | .int _ => some "int"
  | .str _ => some "str"
  | .tup _ => some "tuple"
  | .lst _ => some "list"
  | .ins _ _ => none
  | .odd => some "dict"
  | .dic _ _ => none
  | .cls _ => none
  | .val _ _ => none
  | .raw _ => none
section
variable {Γ : Gam} {X : Cx} {A : List Nat} {a b e : Expr} {es : List Expr} {fa fb : AE Γ} {f g : Ev Γ} {pos : Pos}
theorem strs_dats {M : Addr → Prop} {H : Hp} : ∀ ys : List Str, Dats Γ M H (ys.map V.str) (ys.map D.str)
  | [] => .nil
  | y :: ys => .cons (.str y) (strs_dats ys)
def allStr : List D → Option (List Str)
  | [] => some []
  | .str s :: r => (allStr r).map (s :: ·)
  | _ => none
theorem allStr_ok {M : Addr → Prop} {H : Hp} : ∀ {vs : List V} {ds : List D} {ys : List Str}, Dats Γ M H vs ds → allStr ds = some ys → vs = ys.map V.str
  | _, _, _, .nil, e => by cases e; rfl
  | _, _, _, .cons (d := d) (ds := ds) h r, e => by
    cases d with
    | str b =>
      unfold allStr at e
      cases g : allStr ds with
      | none => rw [g] at e; cases e
      | some es =>
        rw [g] at e
        cases e
        cases h
        rw [allStr_ok r g]
        rfl
    | _ => cases e
end
end G

set_option maxHeartbeats 4000000
namespace G
open PySem L2
def pMax2 {Γ : Gam} : Sl Γ → Sl Γ → Option (Sl Γ) := p0 fun i j => .int (if j > i then j else i)
def pMin2 {Γ : Gam} : Sl Γ → Sl Γ → Option (Sl Γ) := p0 fun i j => .int (if j < i then j else i)
def pAll {Γ : Gam} : Sl Γ → Option (Sl Γ) := pBools fun bs => bs.all id
def pAny {Γ : Gam} : Sl Γ → Option (Sl Γ) := pBools fun bs => bs.any id
/-- a def of the module -/
structure Ca (Γ : Gam) (P : Program) (w : World) (mg : Str → Option Value) (base : Heap) (x : Str) (np : Nat) (g : Fn Γ) (k : Nat) : Prop where
  ex : ∃ f fd ps, FnOk P w Γ.K mg base CX0 k f fd ps (spG Γ np g) ∧ mg x = some (.ref f) ∧ PySem.W.keepIn Γ.K (.ref f) = true ∧ Binds Γ.K fd ps []
theorem Ca.df {Γ : Gam} {X : Cx} {x : Str} {np : Nat} {g : Fn Γ} {k j : Nat} (hK : Γ.K = X.K) (c : Ca Γ X.prog X.w X.mg X.base x np g k) (hr : Room j X.A) (h : k ≤ j) : Df Γ X x np g := by
  obtain ⟨f, fd, ps, h1, h2, h3, h4⟩ := c
  exact ⟨k, f, fd, ps, hK ▸ h1, hr.mono h, h2, hK ▸ h3, hK ▸ h4⟩
theorem fn_okG {Γ : Gam} {P : Program} {w : World} {mg : Str → Option Value} {base : Heap} {x qual : Str} {st : Stmt} {f : Addr} {fd : FuncData} {N ps : List Str} {k np loc : Nat} {A : List Nat} {body : Es Γ} {g : Fn Γ} (F : Fun Γ.K x qual st f fd) (S : FnScope N ps (defScope st))
    (e1 : ps.length = np) (e2 : N.length - np = loc) (e3 : g = mFun np loc A body)
    (hb : ∀ (cdv : Value) (Ar : Around) (outer : List PySem.Env) (s : Shared) (H : Hp) (E : XK), Room k (Ar.deeper (PyProof.Rows.envOfC qual (defScope st) s.heap.objs.size f cdv)) → SdSs Γ (cxOf CX0 P w Γ.K mg base N qual (defScope st) f cdv Ar outer s H E).nox A (defBody st) body) :
    FnOk P w Γ.K mg base CX0 (k + 1) f fd ps (spG Γ np g) := by
  subst e1 e2 e3
  exact fn_ok F S hb
section
variable {Γ : Gam} {X : Cx} {pos : Pos}
end

section
variable {α : Type} (lt : α → α → Bool)
def insS (a : α) : List α → List α
  | [] => [a]
  | b :: r => if lt b a = true then b :: insS a r else a :: b :: r
def sortBy : List α → List α
  | [] => []
  | a :: r => insS lt a (sortBy r)
theorem insS_perm (a : α) : ∀ r : List α, (insS lt a r).Perm (a :: r)
  | [] => List.Perm.refl _
  | b :: r => by
    unfold insS
    split
    · exact ((insS_perm a r).cons b).trans (List.Perm.swap a b r)
    · exact List.Perm.refl _
theorem sortBy_perm : ∀ r : List α, (sortBy lt r).Perm r
  | [] => List.Perm.refl _
  | a :: r => (insS_perm lt a (sortBy lt r)).trans ((sortBy_perm r).cons a)
/-- a strict order of all -/
structure Strict : Prop where
  tr : ∀ a b c, lt a b = true → lt b c = true → lt a c = true
  ir : ∀ a, lt a a = false
  to : ∀ a b, lt a b = false → lt b a = false → a = b
variable {lt}
theorem Strict.as (h : Strict lt) {a b : α} (q : lt a b = true) : lt b a = false := by
  cases e : lt b a with
  | false => rfl
  | true => have := h.tr a b a q e; rw [h.ir] at this; cases this
def Asc (lt : α → α → Bool) (r : List α) : Prop := r.Pairwise fun a b => lt b a = false
theorem insS_asc (h : Strict lt) (a : α) : ∀ r : List α, Asc lt r → Asc lt (insS lt a r)
  | [], _ => by unfold insS; exact List.pairwise_singleton _ _
  | b :: r, q => by
    unfold insS
    have q' := List.pairwise_cons.mp q
    split
    · rename_i hb
      refine List.pairwise_cons.mpr ⟨fun x hx => ?_, insS_asc h a r q'.2⟩
      rcases List.mem_cons.mp ((insS_perm lt a r).mem_iff.mp hx) with z | z
      · subst z; exact h.as hb
      · exact q'.1 x z
    · rename_i hb
      have hb : lt b a = false := by cases e : lt b a with | false => rfl | true => exact absurd e hb
      refine List.pairwise_cons.mpr ⟨fun x hx => ?_, q⟩
      rcases List.mem_cons.mp hx with z | z
      · subst z; exact hb
      · have h1 := q'.1 x z
        cases e : lt x a with
        | false => rfl
        | true =>
          cases e2 : lt b x with
          | true => have := h.tr b x a e2 e; rw [hb] at this; cases this
          | false =>
            have := h.to b x e2 h1
            subst this
            rw [hb] at e
            cases e
theorem sortBy_asc (h : Strict lt) : ∀ r : List α, Asc lt (sortBy lt r)
  | [] => List.Pairwise.nil
  | a :: r => insS_asc h a _ (sortBy_asc h r)
theorem asc_unique (h : Strict lt) : ∀ {r s : List α}, r.Perm s → Asc lt r → Asc lt s → r = s
  | [], s, p, _, _ => by rw [List.nil_perm.mp p]
  | a :: r, [], p, _, _ => by have := p.length_eq; simp at this
  | a :: r, b :: s, p, ha, hb => by
    have ha' := List.pairwise_cons.mp ha
    have hb' := List.pairwise_cons.mp hb
    have eab : a = b := by
      rcases List.mem_cons.mp (p.mem_iff.mp List.mem_cons_self) with z | z
      · exact z
      · rcases List.mem_cons.mp (p.mem_iff.mpr List.mem_cons_self) with y | y
        · exact y.symm
        · exact h.to a b (hb'.1 a z) (ha'.1 b y)
    subst eab
    rw [asc_unique h (List.Perm.cons_inv p) ha'.2 hb'.2]
end
def ltI (a b : Int) : Bool := decide (a < b)
theorem strictI : Strict ltI := ⟨fun a b c h1 h2 => by unfold ltI at *; simp at *; omega, fun a => by unfold ltI; simp, fun a b h1 h2 => by unfold ltI at *; simp at *; omega⟩
theorem lt_list_trichotomy : ∀ (a b : List Nat), ¬ a < b → ¬ b < a → a = b
  | [], [], _, _ => rfl
  | [], b :: r, h, _ => absurd (List.nil_lt_cons b r) h
  | a :: r, [], _, h => absurd (List.nil_lt_cons a r) h
  | a :: r, b :: t, h1, h2 => by
    rw [List.cons_lt_cons_iff] at h1 h2
    have e : a = b := by omega
    subst e
    rw [lt_list_trichotomy r t (fun q => h1 (.inr ⟨rfl, q⟩)) (fun q => h2 (.inr ⟨rfl, q⟩))]
theorem ltCps_eq : ∀ (a b : List Nat), Spec.ltCps a b = decide (a < b)
  | [], [] => by simp [Spec.ltCps]
  | [], b :: r => by simp [Spec.ltCps]
  | a :: r, [] => by simp [Spec.ltCps]
  | a :: r, b :: t => by
    unfold Spec.ltCps
    rw [ltCps_eq r t]
    simp only [List.cons_lt_cons_iff]
    by_cases h1 : a < b <;> by_cases h2 : a = b <;> simp [h1, h2]
theorem strictS : Strict sLt := by
  refine ⟨fun a b c h1 h2 => ?_, fun a => ?_, fun a b h1 h2 => ?_⟩
  · unfold sLt at *
    exact decide_eq_true (List.lt_trans (of_decide_eq_true h1) (of_decide_eq_true h2))
  · unfold sLt
    exact decide_eq_false (List.lt_irrefl _)
  · unfold sLt at *
    have := lt_list_trichotomy _ _ (of_decide_eq_false h1) (of_decide_eq_false h2)
    cases a with
    | mk x =>
      cases b with
      | mk y =>
        have e : x = y := Array.toList_inj.mp this
        rw [e]
def sortI : List Int → List Int := sortBy ltI
def sortS : List Str → List Str := sortBy sLt
theorem sortI_of {ns ms : List Int} (p : ms.Perm ns) (q : ms.Pairwise (· ≤ ·)) : ms = sortI ns :=
  asc_unique strictI (p.trans (sortBy_perm ltI ns).symm) (q.imp fun h => by unfold ltI; simp; exact h) (sortBy_asc strictI ns)
theorem risingS_asc : ∀ (x : Str) (r : List Str), PyProof.Rows.risingS x r = true → Asc sLt (x :: r)
  | x, [], _ => List.pairwise_singleton _ _
  | x, y :: r, h => by
    unfold PyProof.Rows.risingS at h
    rw [Bool.and_eq_true] at h
    have q := risingS_asc y r h.2
    have q' := List.pairwise_cons.mp q
    have hy : sLt y x = false := by
      have := h.1
      rw [ltCps_eq] at this
      unfold sLt
      simpa using this
    refine List.pairwise_cons.mpr ⟨fun z hz => ?_, q⟩
    rcases List.mem_cons.mp hz with e | e
    · subst e; exact hy
    · have h1 := q'.1 z e
      cases e1 : sLt z x with
      | false => rfl
      | true =>
        cases e2 : sLt y z with
        | true => have := strictS.tr y z x e2 e1; rw [hy] at this; cases this
        | false =>
          have := strictS.to y z e2 h1
          subst this
          rw [hy] at e1
          cases e1
theorem sortS_of {ns ms : List Str} (p : ms.Perm ns) (q : PyProof.Rows.sortedS ms = true) : ms = sortS ns := by
  refine asc_unique strictS (p.trans (sortBy_perm sLt ns).symm) ?_ (sortBy_asc strictS ns)
  cases ms with
  | nil => exact List.Pairwise.nil
  | cons x r => exact risingS_asc x r q
def allInt : List D → Option (List Int)
  | [] => some []
  | .int s :: r => (allInt r).map (s :: ·)
  | _ => none
theorem allInt_ok {Γ : Gam} {M : Addr → Prop} {H : Hp} : ∀ {vs : List V} {ds : List D} {ys : List Int}, Dats Γ M H vs ds → allInt ds = some ys → vs = ys.map V.int
  | _, _, _, .nil, e => by cases e; rfl
  | _, _, _, .cons (d := d) (ds := ds) h r, e => by
    cases d with
    | int b =>
      unfold allInt at e
      cases g : allInt ds with
      | none => rw [g] at e; cases e
      | some es =>
        rw [g] at e
        cases e
        cases h
        rw [allInt_ok r g]
        rfl
    | _ => cases e
def pSorted {Γ : Gam} (x : Sl Γ) : Option (Sl Γ) :=
  match x.view with
  | some (.lst ds) => match allInt ds with
    | some ns => some (.lst ((sortI ns).map .int))
    | none => match allStr ds with
      | some ss => if ss.length < 64 then some (.lst ((sortS ss).map .str)) else none
      | none => none
  | _ => none
theorem b_sorted {Γ : Gam} {X : Cx} : Blt Γ X (.builtin "sorted") (pN1 pSorted) := by
  refine ⟨_, fun g => CallR.imp (CallR.or cr_sortedI cr_sortedS) fun xs H Q h => ?_, pN1_ok (r := fun x H Q => (∃ (a : Addr) (ns : List Int), x = V.ref a ∧ SqL Γ.K H a (ns.map V.int) ∧ ∀ (ns' : List Int) (p : Addr), ns'.Perm ns → ns'.Pairwise (· ≤ ·) → H p = none → Q (.ref p) (upd H p (.lst (ns'.map V.int)))) ∨
    ∃ (a : Addr) (xs : List Str), x = V.ref a ∧ SqL Γ.K H a (xs.map V.str) ∧ xs.length < 64 ∧ ∀ (ys : List Str) (p : Addr), ys.Perm xs → PyProof.Rows.sortedS ys = true → H p = none → Q (.ref p) (upd H p (.lst (ys.map V.str)))) ?_⟩
  · obtain ⟨x, e, h⟩ := h
    rcases h with ⟨a, ns, h1, h2, h3⟩ | ⟨a, ns, h1, h2, h3, h4⟩
    · subst h1; exact .inl ⟨a, ns, e, by rw [← g.k]; exact h2, h3⟩
    · subst h1; exact .inr ⟨a, ns, e, by rw [← g.k]; exact h2, h3, h4⟩
  · intro M H x sx s Gx Q dom hp hx k
    unfold pSorted at hp
    split at hp
    · rename_i ds g1
      obtain ⟨p, vs, rfl, hq, r⟩ := hx.list g1
      split at hp
      · rename_i ns g2
        cases hp
        have ev := allInt_ok r g2
        subst ev
        refine .inl ⟨p, ns, rfl, hq, fun ns' p' h1 h2 h3 => ?_⟩
        rw [sortI_of h1 h2]
        exact k.lst (dats_ints _) h3
      · split at hp
        · rename_i ss g2
          split at hp
          · rename_i hl
            cases hp
            have ev := allStr_ok r g2
            subst ev
            refine .inr ⟨p, ss, rfl, hq, hl, fun ns' p' h1 h2 h3 => ?_⟩
            rw [sortS_of h1 h2]
            exact k.lst (strs_dats _) h3
          · cases hp
        · cases hp
    · cases hp
end G

set_option maxHeartbeats 4000000
namespace G
open PySem L2

inductive Pl where
  | sl (i : Nat) | fl (i : Nat) (f : Str)
inductive QE where
  | pl (p : Pl) | cst (d : D)
def Fd.sl {Γ : Gam} : Fd → Sl Γ
  | .dat d => .dat d
  | .lst ds => .lst ds
  | .dic kvs => .dic kvs
def Gam.has (Γ : Gam) (c : Nat) (f : Str) : Bool := match Γ.cls c with | some (_, ns) => ns.contains f | none => false
def getP {Γ : Gam} : Pl → Env Γ → Option (Sl Γ)
  | .sl i, env => got env[i]?
  | .fl i f, env => match env[i]? with
    | some (.ins c fs) => if Γ.has c f = true then (fs.lookup f).map Fd.sl else none
    | some (.dat (.ins c ds)) => match Γ.cls c with
      | some (_, ns) => ((ns.zip ds).lookup f).map .dat
      | none => none
    | _ => none
def evQ {Γ : Gam} : QE → Env Γ → Option (Sl Γ)
  | .pl p, env => getP p env
  | .cst d, _ => some (.dat d)
/-- the place p holds v -/
def PR (w : Wd) (σ : St) (v : V) : Pl → Prop
  | .sl i => σ[i]? = some (some v)
  | .fl i f => ∃ a C dx fsV, σ[i]? = some (some (.ref a)) ∧ w.H a = some (.ins C dx fsV) ∧ fsV.lookup f = some v
def QV (w : Wd) (σ : St) (v : V) : QE → Prop
  | .pl p => PR w σ v p
  | .cst _ => True
/-- an expression that changes nothing -/
structure SdQ (Γ : Gam) (X : Cx) (e : Expr) (q : QE) : Prop where
  run : Gd Γ X → ∀ (σ : St) (env : Env Γ) (s : Sl Γ) (w : Wd) (Q : VK), evQ q env = some s → ER Γ w σ env → (∀ v G, SR Γ w.M w.H v s G → QV w σ v q → Q v w.H) → wE X e σ w.H Q
instance {Γ : Gam} {X : Cx} {e : Expr} {q : QE} : CoeFun (SdQ Γ X e q) (fun _ => Gd Γ X → ∀ (σ : St) (env : Env Γ) (s : Sl Γ) (w : Wd) (Q : VK), evQ q env = some s → ER Γ w σ env → (∀ v G, SR Γ w.M w.H v s G → QV w σ v q → Q v w.H) → wE X e σ w.H Q) := ⟨SdQ.run⟩
section
variable {Γ : Gam} {X : Cx} {A : List Nat} {σ : St} {env env' : Env Γ} {w : Wd} {e a b c : Expr} {pos : Pos} {q q1 q2 q3 : QE}
theorem FdR.sr {M : Addr → Prop} {H : Hp} {v : V} {x : Fd} {G : Addr → Prop} (h : FdR Γ M H v x G) : SR Γ M H v x.sl G := by
  cases x with
  | dat d => exact h
  | lst ds => exact h
  | dic kvs => exact h
theorem FdRs.look {M : Addr → Prop} {H : Hp} {f : Str} {x : Fd} : ∀ {vs : List (Str × V)} {fs : List (Str × Fd)} {G : Addr → Prop}, FdRs Γ M H vs fs G → fs.lookup f = some x → ∃ v G1, vs.lookup f = some v ∧ FdR Γ M H v x G1 ∧ ∀ a, G1 a → G a
  | _, _, _, .nil _, e => by cases e
  | _, _, _, .cons (n := n) h r d eq, e => by
    rw [List.lookup_cons] at e ⊢
    by_cases hn : (f == n) = true
    · rw [hn] at e ⊢
      cases e
      exact ⟨_, _, rfl, h, fun a z => (eq a).mpr (.inl z)⟩
    · have hn' : (f == n) = false := by cases q : (f == n) with | false => rfl | true => exact absurd q hn
      rw [hn'] at e ⊢
      obtain ⟨v, G1, e1, h1, h2⟩ := FdRs.look r e
      exact ⟨v, G1, e1, h1, fun a z => (eq a).mpr (.inr (h2 a z))⟩
theorem zip_look {M : Addr → Prop} {H : Hp} {f : Str} {d : D} : ∀ {ns : List Str} {vs : List V} {ds : List D}, Dats Γ M H vs ds → (ns.zip ds).lookup f = some d → ∃ v, (ns.zip vs).lookup f = some v ∧ Dat Γ M H v d
  | [], vs, ds, r, e => by cases e
  | n :: ns, _, _, .nil, e => by cases e
  | n :: ns, _, _, .cons h r, e => by
    rw [List.zip_cons_cons, List.lookup_cons] at e
    rw [List.zip_cons_cons, List.lookup_cons]
    cases hn : (f == n) with
    | true => rw [hn] at e; cases e; exact ⟨_, rfl, h⟩
    | false => rw [hn] at e; exact zip_look r e
theorem lookup_mem {α : Type} {f : Str} {x : α} : ∀ {ns : List Str} {xs : List α}, (ns.zip xs).lookup f = some x → ns.contains f = true
  | [], xs, e => by cases e
  | n :: ns, [], e => by cases e
  | n :: ns, y :: xs, e => by
    rw [List.zip_cons_cons, List.lookup_cons] at e
    cases hn : (f == n) with
    | true => rw [List.contains_cons, hn]; rfl
    | false => rw [hn] at e; rw [List.contains_cons, hn, Bool.false_or]; exact lookup_mem e
/-- the instance that slot i holds, its attribute f -/
theorem ER.fld (E : ER Γ w σ env) {i : Nat} {f : Str} {s : Sl Γ} (h : getP (.fl i f) env = some s) : ∃ a c C ns dx fsV v G, Γ.cls c = some (C, ns) ∧ ns.contains f = true ∧ σ[i]? = some (some (.ref a)) ∧ w.H a = some (.ins C dx fsV) ∧ fsV.lookup f = some v ∧ SR Γ w.M w.H v s G := by
  simp only [getP] at h
  split at h
  · rename_i c fs g
    split at h
    · rename_i hc
      cases g2 : fs.lookup f with
      | none => rw [g2] at h; cases h
      | some x =>
        rw [g2] at h
        cases h
        obtain ⟨v, ev, a, C, ns, dx, vs, G, rfl, hC, ha, r, _, _⟩ := E.at (i := i) (s := .ins c fs) (by rw [g]; rfl)
        obtain ⟨u, G1, e1, h1, _⟩ := r.look g2
        unfold Gam.has at hc
        rw [hC] at hc
        exact ⟨a, c, C, ns, dx, vs, u, G1, hC, hc, ev, ha, e1, h1.sr⟩
    · cases h
  · rename_i c ds g
    split at h
    · rename_i C ns hC
      cases g2 : (ns.zip ds).lookup f with
      | none => rw [g2] at h; cases h
      | some d =>
        rw [g2] at h
        cases h
        obtain ⟨v, ev, rv, _⟩ := E.at (i := i) (s := .dat (.ins c ds)) (by rw [g]; rfl)
        cases rv with
        | @ins a C' dx _ ns' vs _ e1 n ha hl r =>
          rw [hC] at e1
          cases e1
          obtain ⟨u, eu, hu⟩ := zip_look r g2
          exact ⟨a, c, C, ns, dx, _, u, fun _ => False, hC, lookup_mem g2, ev, ha, eu, hu, fun _ z => z⟩
    · cases h
  · cases h
/-- a quiet expression's data as a value -/
def mQ {Γ : Gam} (q : QE) : Ev Γ := fun env =>
  match evQ q env with
  | some (.dat d) => some (.dat d, env)
  | _ => none
def lookD (kvs : List (Key × D)) (k : Key) : Option D := (kvs.find? fun kv => decide (kv.1 = k)).map (·.2)
def putD (kvs : List (Key × D)) (k : Key) (v : D) : List (Key × D) :=
  if (kvs.any fun kv => decide (kv.1 = k)) = true then kvs.map (fun kv => if kv.1 = k then (kv.1, v) else kv) else kvs ++ [(k, v)]
theorem KDats.look {M : Addr → Prop} {H : Hp} {k : Key} : ∀ {vs : List (Key × V)} {kvs : List (Key × D)}, KDats Γ M H vs kvs → (lookD kvs k = none ∧ valV vs k = none) ∨ ∃ d v, lookD kvs k = some d ∧ valV vs k = some v ∧ Dat Γ M H v d
  | _, _, .nil => .inl ⟨rfl, rfl⟩
  | _, _, .cons (k := n) (v := v) (d := d) h r => by
    by_cases e : n = k
    · exact .inr ⟨d, v, by simp [lookD, List.find?_cons, e], by rw [valV_pos e], h⟩
    · rcases KDats.look (k := k) r with ⟨h1, h2⟩ | ⟨d', v', h1, h2, h3⟩
      · exact .inl ⟨by rw [← h1]; simp [lookD, List.find?_cons, e], by rw [valV_neg e, h2]⟩
      · exact .inr ⟨d', v', by rw [← h1]; simp [lookD, List.find?_cons, e], by rw [valV_neg e, h2], h3⟩
theorem KDats.length {M : Addr → Prop} {H : Hp} : ∀ {vs : List (Key × V)} {kvs : List (Key × D)}, KDats Γ M H vs kvs → vs.length = kvs.length
  | _, _, .nil => rfl
  | _, _, .cons h r => by rw [List.length_cons, List.length_cons, KDats.length r]
theorem KDats.snoc {M : Addr → Prop} {H : Hp} {k : Key} {v : V} {d : D} (h : Dat Γ M H v d) : ∀ {vs : List (Key × V)} {kvs : List (Key × D)}, KDats Γ M H vs kvs → KDats Γ M H (vs ++ [(k, v)]) (kvs ++ [(k, d)])
  | _, _, .nil => .cons h .nil
  | _, _, .cons q r => .cons q (KDats.snoc h r)
theorem KDats.setAll {M : Addr → Prop} {H : Hp} {k : Key} {v : V} {d : D} (h : Dat Γ M H v d) : ∀ {vs : List (Key × V)} {kvs : List (Key × D)}, KDats Γ M H vs kvs → KDats Γ M H (vs.map fun kv => if kv.1 = k then (kv.1, v) else kv) (kvs.map fun kv => if kv.1 = k then (kv.1, d) else kv)
  | _, _, .nil => .nil
  | _, _, .cons (k := n) q r => by
    rw [List.map_cons, List.map_cons]
    by_cases e : n = k
    · simp only [e, if_true]; exact .cons h (KDats.setAll h r)
    · simp only [e, if_false]; exact .cons q (KDats.setAll h r)
theorem KDats.any {M : Addr → Prop} {H : Hp} {k : Key} : ∀ {vs : List (Key × V)} {kvs : List (Key × D)}, KDats Γ M H vs kvs → (vs.any fun kv => decide (kv.1 = k)) = kvs.any fun kv => decide (kv.1 = k)
  | _, _, .nil => rfl
  | _, _, .cons q r => by rw [List.any_cons, List.any_cons, KDats.any r]
theorem KDats.put {M : Addr → Prop} {H : Hp} {k : Key} {v : V} {d : D} (h : Dat Γ M H v d) {vs : List (Key × V)} {kvs : List (Key × D)} (r : KDats Γ M H vs kvs) : KDats Γ M H (putK vs k v) (putD kvs k d) := by
  unfold putK putD
  rw [r.any]
  split
  · exact r.setAll h
  · exact r.snoc h
theorem SR.dic {M : Addr → Prop} {H : Hp} {v : V} {G : Addr → Prop} {kvs : List (Key × D)} (h : SR Γ M H v (.dic kvs) G) : ∃ p vs, v = .ref p ∧ H p = some (.dK vs) ∧ KDats Γ M H vs kvs := by
  obtain ⟨p, vs, e, hp, r, _⟩ := h
  exact ⟨p, vs, e, hp, r⟩
theorem Gd.hu (g : Gd Γ X) : X.A.units + 1 < cLine := Nat.lt_of_le_of_lt (Nat.add_le_add_left (by decide) _) g.un
end
end G

set_option maxHeartbeats 4000000
namespace G
open PySem L2

def putFd (f : Str) (x : Fd) : List (Str × Fd) → List (Str × Fd)
  | [] => [(f, x)]
  | (n, y) :: r => if n = f then (n, x) :: r else (n, y) :: putFd f x r
section
variable {Γ : Gam} {X : Cx} {A : List Nat} {σ : St} {env env' : Env Γ} {w : Wd} {e a b c : Expr} {pos : Pos} {q q1 q2 q3 : QE}
/-- what slot i owns is changed -/
theorem ER.chg (E : ER Γ w σ env) {i : Nat} {v : V} {s' : Sl Γ} {Fi : Addr → Prop} {H' : Hp} (hv : σ[i]? = some (some v)) (keep : ∀ a u, ¬ w.F i a → w.H a = some u → H' a = some u) (live : ∀ a, w.H a ≠ none → H' a ≠ none)
    (hF : ∀ a, Fi a → w.M a ∧ ∀ j, j ≠ i → ¬ w.F j a) (r : SR Γ w.M H' v s' Fi) : ER Γ ⟨w.M, fun j a => if j = i then Fi a else w.F j a, H'⟩ σ (env.set i s') := by
  have il : i < env.length := by rw [E.len]; exact (List.getElem?_eq_some_iff.mp hv).1
  have g : Go w.M w.H w.M H' := ⟨fun a u n e => keep a u (fun z => n (E.sub i a z)) e, fun _ n _ => n⟩
  refine ⟨by rw [List.length_set]; exact E.len, fun j s hj => ?_, fun j a f => ?_, fun j k a f f' => ?_, fun a m => live a (E.dom a m), fun j hj a f => ?_⟩
  · by_cases e : j = i
    · subst e
      rw [List.getElem?_set_self il] at hj
      cases hj
      have ef : (fun a => if j = j then Fi a else w.F j a) = Fi := by funext a; rw [if_pos rfl]
      refine .inr ⟨v, hv, ?_⟩
      show SR Γ w.M H' v s' (fun a => if j = j then Fi a else w.F j a)
      rw [ef]
      exact r
    · rw [List.getElem?_set_ne (Ne.symm e)] at hj
      have ef : (fun a => if j = i then Fi a else w.F j a) = w.F j := by funext a; rw [if_neg e]
      rcases E.slot j s hj with ⟨z1, z2⟩ | ⟨u, eu, ru⟩
      · refine .inl ⟨z1, fun a f => ?_⟩
        have f' : (if j = i then Fi a else w.F j a) := f
        rw [if_neg e] at f'
        exact z2 a f'
      · refine .inr ⟨u, eu, ?_⟩
        show SR Γ w.M H' u s (fun a => if j = i then Fi a else w.F j a)
        rw [ef]
        exact ru.go g fun a o f q => keep a o (fun z => e (E.dis j i a f z)) q
  · have f' : (if j = i then Fi a else w.F j a) := f
    split at f'
    · exact (hF a f').1
    · exact E.sub j a f'
  · have g1 : (if j = i then Fi a else w.F j a) := f
    have g2 : (if k = i then Fi a else w.F k a) := f'
    split at g1
    · rename_i e1
      split at g2
      · rename_i e2; rw [e1, e2]
      · rename_i e2; exact absurd g2 ((hF a g1).2 k e2)
    · rename_i e1
      split at g2
      · exact absurd g1 ((hF a g2).2 j e1)
      · exact E.dis j k a g1 g2
  · have g1 : (if j = i then Fi a else w.F j a) := f
    rw [List.length_set] at hj
    split at g1
    · omega
    · exact E.out j hj a g1
theorem FdRs.keep {M : Addr → Prop} {H H' : Hp} {p : Addr} (mp : M p) : ∀ {vs : List (Str × V)} {fs : List (Str × Fd)} {G : Addr → Prop}, FdRs Γ M H vs fs G → ¬ G p → (∀ b, b ≠ p → H' b = H b) → FdRs Γ M H' vs fs G
  | _, _, _, .nil h, _, _ => .nil h
  | _, _, _, .cons h r d eq, n, k => by
    have g : Go M H M H' := ⟨fun b u nb e => by rw [k b (fun z => nb (z ▸ mp))]; exact e, fun _ nb _ => nb⟩
    exact .cons (h.go g fun b u z e => by rw [k b (fun z' => n ((eq p).mpr (.inl (z' ▸ z))))]; exact e) (FdRs.keep mp r (fun z => n ((eq p).mpr (.inr z))) k) d eq
end
end G

set_option maxHeartbeats 4000000
namespace G
open PySem L2
section
variable {Γ : Gam} {X : Cx} {A : List Nat} {σ : St} {env env' : Env Γ} {w : Wd} {e : Expr} {es : List Expr} {pos : Pos}

def Sl.fd {Γ : Gam} : Sl Γ → Option Fd
  | .dat d => some (.dat d)
  | .lst ds => some (.lst ds)
  | .dic kvs => some (.dic kvs)
  | _ => Option.none
theorem FdRs.put {M : Addr → Prop} {H : Hp} {f : Str} {v : V} {x : Fd} {G1 : Addr → Prop} (h : FdR Γ M H v x G1) : ∀ {vs : List (Str × V)} {fs : List (Str × Fd)} {G : Addr → Prop}, FdRs Γ M H vs fs G → (∀ a, G1 a → ¬ G a) → ∃ G', FdRs Γ M H (putF f v vs) (putFd f x fs) G' ∧ ∀ a, G' a → G a ∨ G1 a
  | _, _, G, .nil hG, d => ⟨G1, .cons (G2 := fun _ => False) h (.nil fun _ z => z) (fun _ _ z => z) (fun a => ⟨fun z => .inl z, fun z => z.elim id False.elim⟩), fun a z => .inr z⟩
  | _, _, G, .cons (n := n) (G1 := g1) (G2 := g2) hh r dd eq, d => by
    by_cases e : n = f
    · refine ⟨fun a => G1 a ∨ g2 a, ?_, fun a z => z.elim .inr fun q => .inl ((eq a).mpr (.inr q))⟩
      unfold putF putFd
      rw [if_pos e, if_pos e]
      exact .cons h r (fun a z q => d a z ((eq a).mpr (.inr q))) fun a => Iff.rfl
    · obtain ⟨G', h1, h2⟩ := FdRs.put h r fun a z q => d a z ((eq a).mpr (.inr q))
      refine ⟨fun a => g1 a ∨ G' a, ?_, fun a z => z.elim (fun q => .inl ((eq a).mpr (.inl q))) fun q => (h2 a q).imp (fun y => (eq a).mpr (.inr y)) id⟩
      unfold putF putFd
      rw [if_neg e, if_neg e]
      exact .cons hh h1 (fun a z q => (h2 a q).elim (fun y => dd a z y) fun y => d a y ((eq a).mpr (.inl z))) fun a => Iff.rfl
theorem FdRs.len {M : Addr → Prop} {H : Hp} : ∀ {vs : List (Str × V)} {fs : List (Str × Fd)} {G : Addr → Prop}, FdRs Γ M H vs fs G → vs.length = fs.length
  | _, _, _, .nil _ => rfl
  | _, _, _, .cons _ r _ _ => by rw [List.length_cons, List.length_cons, FdRs.len r]
theorem ARs.here {w : Wd} (E : ER Γ w σ env) : ∀ {vs : List V} {xs : List (Ag Γ)} {Frs : List (Addr → Prop)}, ARs Γ w σ vs xs Frs → ∀ G ∈ Frs, ∀ a, G a → w.H a ≠ none
  | _, _, _, .nil, G, hG => nomatch hG
  | _, _, _, .cons h d r, G, hG => fun a ga => by
    rcases List.mem_cons.mp hG with z | z
    · subst z; exact (h.here E a ga).1
    · exact ARs.here E r G z a ga
end
end G

set_option maxHeartbeats 4000000
namespace G
open PySem L2
section
variable {Γ : Gam} {X : Cx} {A : List Nat} {σ : St} {env env' : Env Γ} {w : Wd} {e : Expr} {es : List Expr} {pos apos npos : Pos} {c np : Nat} {g : Fn Γ} {as : List (AE Γ)} {m : Str}
structure KB (K : PySem.W.Frag) (fd : FuncData) (ps ks : List Str) (n1 : Nat) : Prop where
  to : ∀ (s : Shared) (us ws : List Value), K.In s.heap → us.length = n1 → ws.length = ks.length → BindsTo s fd ⟨us, ks.zip ws⟩ (ps.zip (us ++ ws))
end
end G

set_option maxHeartbeats 4000000
namespace G
open PySem L2
section
variable {Γ : Gam} {X : Cx} {A : List Nat} {σ : St} {env env' : Env Γ} {w : Wd} {e a b : Expr} {es : List Expr} {pos apos npos : Pos} {c np : Nat} {g : Fn Γ} {as : List (AE Γ)} {m x : Str}
/-- the promise of a def f(a, *v) -/
def spV (Γ : Gam) (np : Nat) (g : Fn Γ) : Sp := fun vs H Q E => ∃ ws rest, vs = ws ++ rest ∧ ws.length + 1 = np ∧ rest.length ≤ sizeLine ∧ ∀ p, H p = Option.none → spG Γ np g (ws ++ [V.ref p]) (upd H p (.tup rest)) Q E
structure MkV (Γ : Gam) (X : Cx) (c : Nat) (x : Str) (g : Fn Γ) : Prop where
  ex : ∃ C ns k f, Γ.cls c = some (C, ns) ∧ Mk X.K C f ∧ FnR X.prog X.w X.K X.mg X.base CX0 k f (spV Γ 2 g) ∧ Room (k + 1) X.A ∧ X.mg x = some (.ref C)
end
end G

set_option maxHeartbeats 4000000
namespace G
open PySem L2
def kD : Key → D
  | .inl i => .int i
  | .inr x => .str x
theorem KDats.get {Γ : Gam} {M : Addr → Prop} {H : Hp} : ∀ {vs : List (Key × V)} {ds : List (Key × D)} {j : Nat} {q : Key × D}, KDats Γ M H vs ds → ds[j]? = some q → ∃ v, vs[j]? = some (q.1, v) ∧ Dat Γ M H v q.2
  | _, _, _, _, .nil, e => by simp at e
  | _, _, 0, _, .cons h r, e => by simp at e; subst e; exact ⟨_, rfl, h⟩
  | _, _, j + 1, q, .cons h r, e => by
    obtain ⟨v, h1, h2⟩ := KDats.get (j := j) (q := q) r (by simpa using e)
    exact ⟨v, by simpa using h1, h2⟩
section
variable {Γ : Gam} {X : Cx} {A : List Nat} {σ : St} {env env' : Env Γ} {w : Wd} {x f : Str} {npos fpos apos cpos tpos pos spos : Pos} {elts : List Expr} {kk i : Nat}
end
end G

set_option maxHeartbeats 4000000
namespace G
open PySem L2
section
variable {Γ : Gam} {X : Cx} {A : List Nat} {σ : St} {env env' : Env Γ} {w : Wd} {a b e : Expr} {es : List Expr} {fa fb : AE Γ} {q1 q2 q : QE} {pos : Pos}
structure IsC (Γ : Gam) (X : Cx) (c : Nat) (x : Str) : Prop where
  ex : ∃ C ns, Γ.cls c = some (C, ns) ∧ X.mg x = some (.ref C) ∧ Cls X.K C ∧ PySem.W.findIn X.K (.ref C) "__class__" = some (some (.builtin "object.__class__")) ∧ PySem.W.specialIn X.K (.builtin "object.__class__") "__get__" = some (some (.builtin "getset_descriptor.__get__")) ∧
    PySem.W.takesIn X.K (.builtin "object.__class__") = some true ∧ PySem.W.mroIn X.K C (.type "object") = some true ∧ PySem.W.kitOne X.K (.ref C) (.ref C) = some true ∧ PySem.W.kitOne X.K (.type "list") (.ref C) = some false
theorem sds_parC {i j : Nat} {x y : Str} {fa fb : Ev Γ} {px py pt : Pos} {kt k2 pt2} (hAi : i ∈ A) (hAj : j ∈ A) (hi : X.N[i]? = some x) (hj : X.N[j]? = some y) (hij : i ≠ j)
    (hx : Loc X.env.scope x) (hy : Loc X.env.scope y) (hfx : X.fn x = true ∨ X.env.scope.names.lookup x = some .local) (hfy : X.fn y = true ∨ X.env.scope.names.lookup y = some .local) (ha : SdE Γ X a fa) (na : NS X a) (hb : SdE Γ X b fb) (nb : NS X b)
    (hs : swapsWithSole [.Tuple [.Name x px, .Name y py] kt pt] (.Tuple [a, b] k2 pt2) pos.line X.env = pure false := by rfl) (hw : swappedStores [.Tuple [.Name x px, .Name y py] kt pt] (.Tuple [a, b] k2 pt2) X.env = pure none := by rfl)
    (h1 : (assignEach [.Tuple [.Name x px, .Name y py] kt pt] X.env).map (·.2) = [assign (.Tuple [.Name x px, .Name y py] kt pt) X.env] := by rfl)
    (h2 : (assignEach [.Name x px, .Name y py] X.env).length = 2 := by rfl) (h3 : (assignEach [.Name x px, .Name y py] X.env).findIdx? (·.1) = none := by rfl) :
    SdS Γ X A (.Assign [.Tuple [.Name x px, .Name y py] kt pt] (.Tuple [a, b] k2 pt2) pos) (mPar i j fa fb) := by
  refine ⟨?_⟩
  intro hK σ env fl env' w D he E k
  refine wS.of (ps_asg (pe_tup (pa_wL (es := [a, b]) fun e h => by rcases List.mem_cons.mp h with z | z; (rw [z]; exact na); (rw [List.mem_singleton.mp z]; exact nb))) (pg_tup hK.calm (pgs_cons (pg_name hK.nd hi hx hfx) (pgs_cons (pg_name hK.nd hj hy hfy) pgs_nil rfl) rfl) h2 h3) hs hw h1) ?_
  unfold mPar at he
  cases g1 : fa env with
  | none => simp only [g1] at he; cases he
  | some q =>
    obtain ⟨s, env1⟩ := q
    simp only [g1] at he
    cases g2 : fb env1 with
    | none => simp only [g2] at he; cases he
    | some q =>
      obtain ⟨t, env2⟩ := q
      simp only [g2] at he
      split at he
      · rename_i hl
        cases he
        refine ha hK σ env _ _ w _ g1 E fun v w1 Fr E1 T1 p1 f1 => ?_
        refine hb hK σ env1 _ _ w1 _ g2 E1 fun u w2 Fr2 E2 T2 p2 f2 => ?_
        refine ⟨by show 2 ≤ sizeLine; decide, fun p hp => ⟨p, [v, u], rfl, .inl (.inl upd_same), rfl, ?_⟩⟩
        obtain ⟨E2', p3⟩ := E2.grow (Fr := fun _ => False) (H' := upd w2.H p (.tup [v, u])) (upd_keep hp) (fun _ z => z.elim)
        have T1' := TR.step E2 (TR.step E1 T1 p2) p3
        have T2'' := TR.step E2 T2 p3
        have dis : ∀ z, Fr z → ¬ Fr2 z := fun z q q' => by
          rcases f2 z q' with ⟨i, r⟩ | r
          · exact T1.off z i q r
          · exact E1.dom z (T1.sub z q) r
        have p12 := (p1.trans p2 E.dom).trans p3 E.dom
        have E3 := E2'.set T1' hl.1
        have T2' : TR Γ ⟨fun a => w2.M a ∨ False, fun j a => if j = i then Fr a else w2.F j a, upd w2.H p (.tup [v, u])⟩ u t Fr2 := ⟨T2''.rep, T2''.sub, fun a l q z => by
          have z' : (if l = i then Fr a else w2.F l a) := z
          split at z'
          · exact dis a z' q
          · exact T2.off a l q z'⟩
        have E4 := E3.set T2' (i := j) (by rw [List.length_set]; exact hl.2)
        exact ⟨v, [u], rfl, u, [], rfl, rfl, k _ ⟨fun a => w2.M a ∨ False, fun l a => if l = j then Fr2 a else if l = i then Fr a else w2.F l a, upd w2.H p (.tup [v, u])⟩ E4 ((p12.set f1).set (f2.back p1)) ((Agree.set hAi).trans (Agree.set hAj))⟩
      · cases he
end
end G

set_option maxHeartbeats 4000000
namespace G
open PySem L2
section
variable (Γ : Gam) (P : Program) (w : World) (mg : Str → Option Value) (base : Heap)
structure VCa (c : Nat) (x : Str) (g : Fn Γ) (k : Nat) : Prop where
  ex : ∃ C ns f, Γ.cls c = some (C, ns) ∧ Mk Γ.K C f ∧ FnR P w Γ.K mg base CX0 k f (spV Γ 2 g) ∧ mg x = some (.ref C)
structure ICa (c : Nat) (x : Str) : Prop where
  ex : ∃ C ns, Γ.cls c = some (C, ns) ∧ mg x = some (.ref C) ∧ Cls Γ.K C ∧ PySem.W.findIn Γ.K (.ref C) "__class__" = some (some (.builtin "object.__class__")) ∧ PySem.W.specialIn Γ.K (.builtin "object.__class__") "__get__" = some (some (.builtin "getset_descriptor.__get__")) ∧
    PySem.W.takesIn Γ.K (.builtin "object.__class__") = some true ∧ PySem.W.mroIn Γ.K C (.type "object") = some true ∧ PySem.W.kitOne Γ.K (.ref C) (.ref C) = some true ∧ PySem.W.kitOne Γ.K (.type "list") (.ref C) = some false
end
section
variable {Γ : Gam} {X : Cx} {c np k j n1 : Nat} {m x : Str} {g : Fn Γ} {ks : List Str}
theorem VCa.v (hK : Γ.K = X.K) (h : VCa Γ X.prog X.w X.mg X.base c x g k) (hr : Room j X.A) (l : k + 1 ≤ j) : MkV Γ X c x g := by
  obtain ⟨C, ns, f, h1, h2, h3, h4⟩ := h
  exact ⟨C, ns, k, f, h1, hK ▸ h2, hK ▸ h3, hr.mono l, h4⟩
theorem ICa.is (hK : Γ.K = X.K) (h : ICa Γ X.mg c x) : IsC Γ X c x := by
  obtain ⟨C, ns, h1, h2, h3, h4, h5, h6, h7, h8, h9⟩ := h
  exact ⟨C, ns, h1, h2, hK ▸ h3, hK ▸ h4, hK ▸ h5, hK ▸ h6, hK ▸ h7, hK ▸ h8, hK ▸ h9⟩
end
end G

set_option maxHeartbeats 4000000
namespace G
open PySem L2

/-- what such an __init__ does: the error at a gets a dict that holds the argument -/
def spSup (C : Addr) (fld : Str) (ok : V → Prop) : Sp := fun vs H Q _ => ∃ a v, vs = [.ref a, v] ∧ H a = some (exo a C none) ∧ ok v ∧
  ∀ dx, H dx = none → dx ≠ a → Q .non (upd (upd H dx (exd dx [(fld, v)])) a (exo a C (some dx)))

section
variable {P : Program} {w : World} {K : PySem.W.Frag} {mg : Str → Option Value} {base : Heap}
end
end G

set_option maxHeartbeats 4000000
namespace G
open PySem L2

end G

set_option maxHeartbeats 4000000
namespace G
open PySem L2

/-- a call by n1 values and the keywords ks: what lacks between them is pre -/
structure KBd (Γ : Gam) (K : PySem.W.Frag) (fd : FuncData) (ps ks : List Str) (n1 : Nat) (pre : List D) : Prop where
  ex : ∃ (pv : List V) (pu : List Value), Vals pv pu ∧ (∀ M H, Dats Γ M H pv pre) ∧ ∀ (s : Shared) (us ws : List Value), K.In s.heap → us.length = n1 → ws.length = ks.length → BindsTo s fd ⟨us, ks.zip ws⟩ (ps.zip (us ++ (pu ++ ws)))

section
variable {X : Cx} {CX : CXT} {k n : Nat} {f C : Addr} {fd : FuncData} {ps ks : List Str} {sp : Sp} {E : XK} {x : Str} {p pos : Pos} {e : Expr} {es : List Expr} {kws : List Keyword} {pv : List V} {pu : List Value} {σ : St} {H : Hp} {Q : VK}
end

def insA {Γ : Gam} (n : Nat) (pre : List D) (xs : List (Ag Γ)) : List (Ag Γ) := xs.take n ++ (pre.map (fun d => Ag.val (.dat d)) ++ xs.drop n)
section
variable {Γ : Gam} {X : Cx} {σ : St} {env env' : Env Γ} {w : Wd} {es : List Expr}
theorem ARs.pre {w : Wd} {vs : List V} {xs : List (Ag Γ)} {Frs : List (Addr → Prop)} (r : ARs Γ w σ vs xs Frs) : ∀ {pv : List V} {pre : List D}, Dats Γ w.M w.H pv pre → ARs Γ w σ (pv ++ vs) (pre.map (fun d => Ag.val (.dat d)) ++ xs) (pre.map (fun _ _ => False) ++ Frs)
  | _, _, .nil => r
  | _, _, .cons h t => .cons (show TR Γ w _ (.dat _) (fun _ => False) from ⟨⟨h, fun _ z => z⟩, fun _ z => z.elim, fun _ _ z => z.elim⟩) (fun _ _ _ z => z.elim) (ARs.pre r t)
theorem ARs.ins {w : Wd} {pv : List V} {pre : List D} (d : Dats Γ w.M w.H pv pre) : ∀ {vs : List V} {xs : List (Ag Γ)} {Frs : List (Addr → Prop)} (n : Nat), ARs Γ w σ vs xs Frs → ∃ Frs', ARs Γ w σ (vs.take n ++ (pv ++ vs.drop n)) (insA n pre xs) Frs' ∧ ∀ G ∈ Frs', G ∈ Frs ∨ ∀ a, ¬ G a
  | _, _, Frs, 0, r => ⟨_, ARs.pre r d, fun G hG => by
      rcases List.mem_append.mp hG with z | z
      · obtain ⟨_, _, rfl⟩ := List.mem_map.mp z
        exact .inr fun _ z => z
      · exact .inl z⟩
  | _, _, _, n + 1, .nil => ⟨_, by simpa [insA] using ARs.pre (σ := σ) .nil d, fun G hG => by
      obtain ⟨_, _, rfl⟩ := List.mem_map.mp hG
      exact .inr fun _ z => z⟩
  | _, _, _, n + 1, .cons (Fr := Fr) h e r => by
    obtain ⟨Fs, r', hG⟩ := ARs.ins d n r
    refine ⟨Fr :: Fs, .cons h (fun G hm x fx => ?_) r', fun G hm => ?_⟩
    · rcases hG G hm with z | z
      · exact e G z x fx
      · exact z x
    · rcases List.mem_cons.mp hm with z | z
      · exact .inl (z ▸ List.mem_cons_self)
      · rcases hG G z with y | y
        · exact .inl (List.mem_cons_of_mem _ y)
        · exact .inr y
structure MkK (Γ : Gam) (X : Cx) (c : Nat) (x : Str) (np : Nat) (g : Fn Γ) (ks : List Str) (n1 : Nat) (pre : List D) : Prop where
  ex : ∃ C ns k f fd ps, Γ.cls c = some (C, ns) ∧ Mk X.K C f ∧ X.mg x = some (.ref C) ∧ FnOk X.prog X.w X.K X.mg X.base CX0 k f fd ps (spG Γ np g) ∧ Room (k + 1) X.A ∧ KBd Γ X.K fd ps ks n1 pre
end
end G

set_option maxHeartbeats 4000000
namespace G
open PySem L2

/-- an own error with one attribute, made by a call of x -/
structure BadC (X : Cx) (x : Str) (CB : Addr) (fld : Str) (ok : V → Prop) : Prop where
  ex : ∃ k fI fd ps, FnOk X.prog X.w X.K X.mg X.base CX0 k fI fd ps (spSup CB fld ok) ∧ Room (k + 1) X.A ∧ Binds X.K fd ps [] ∧ PySem.W.findIn X.K (.ref CB) "__init__" = some (some (.ref fI)) ∧ PySem.W.typeIn X.K (.ref fI) = some (.type "function")
  T : OexC X.K CB
  mg : X.mg x = some (.ref CB)
section
variable {X : Cx} {x : Str} {CB : Addr} {fld nm : Str} {ok : V → Prop} {W : WX} {D : Ends} {σ : St} {H : Hp} {p p2 p3 p4 : Pos} {j : Option Str}
end

section
variable {Γ : Gam} {X : Cx} {W : WX} {CB : Addr} {fld : Str} {x : Str} {ok : V → Prop}
end

/-- an __init__ by data alone that ends by the error: self is as it was -/
def spRz (Γ : Gam) (c : Nat) (C CB : Addr) (fld : Str) (zf : List D → Option Str) : Sp := fun vs H _ E => ∃ (x dx : Addr) (vs' : List V) (ds : List D) (M : Addr → Prop) (nm : Str), vs = .ref x :: vs' ∧ H x = some (.ins C dx []) ∧ M x ∧ Dats Γ M H vs' ds ∧ (∀ a, M a → H a ≠ none) ∧ zf ds = some nm ∧
  ∀ H' d, (∀ b u, b ≠ x → H b = some u → H' b = some u) → H' d = some (.xd [(fld, .str nm)]) → E (.ref CB) (some d) H'
end G

set_option maxHeartbeats 4000000
namespace G
open PySem L2 PySem.Spec PyProof.Rows

section
variable {X : Cx} {x1 x2 n : Str} {c1 c2 : Value} {i : Nat} {body st1 suite : List Stmt} {b0 b1 : Stmt} {np1 np2 pos pos1 pos2 : Pos} {tb : WX → TS} {ts : Addr → Value → Option Addr → TS}
end
end G

set_option maxHeartbeats 4000000
namespace G
open PySem L2

/-- the raising __init__ of a class, and the error's class -/
structure MkZ (Γ : Gam) (X : Cx) (c : Nat) (x : Str) (CB : Addr) (fld : Str) (zf : List D → Option Str) (ks : List Str) (n1 : Nat) (pre : List D) : Prop where
  ex : ∃ C ns k f fd ps, Γ.cls c = some (C, ns) ∧ Mk X.K C f ∧ X.mg x = some (.ref C) ∧ FnOk X.prog X.w X.K X.mg X.base (L2.CX X.prog X.w) k f fd ps (spRz Γ c C CB fld zf) ∧ Room (k + 1) X.A ∧ KBd Γ X.K fd ps ks n1 pre
section
variable {Γ : Gam} {X : Cx} {W : WX} {CB : Addr} {fld : Str} {c n : Nat} {x : Str} {zf : List D → Option Str} {pre : List D} {as : List (AE Γ)} {e : Expr} {es : List Expr} {kws : List Keyword} {ks : List Str} {p pos : Pos}
end
theorem ER.free {Γ : Gam} {w : Wd} {σ : St} {env : Env Γ} {i : Nat} {v : Option V} (E : ER Γ w σ env) (h : env[i]? = some .none) : ER Γ w (σ.set i v) env := by
  refine ⟨by rw [E.len, List.length_set], fun j s hs => ?_, E.sub, E.dis, E.dom, E.out⟩
  by_cases e : i = j
  · subst e
    rw [h] at hs
    cases hs
    rcases E.slot i _ h with z | ⟨u, _, z⟩
    · exact .inl z
    · exact z.elim
  · rcases E.slot j s hs with z | ⟨u, e1, e2⟩
    · exact .inl z
    · exact .inr ⟨u, by rw [List.getElem?_set_ne e]; exact e1, e2⟩
end G

set_option maxHeartbeats 4000000
namespace G
open PySem L2

theorem MkZ.tr {Γ : Gam} {X : Cx} {c : Nat} {x : Str} {CB : Addr} {fld : Str} {zf : List D → Option Str} {ks : List Str} {n1 : Nat} {pre : List D} (h : MkZ Γ X c x CB fld zf ks n1 pre) (pn : List (Addr × Obj)) (xe : Value → Shared → Prop) : MkZ Γ (X.tr pn xe) c x CB fld zf ks n1 pre := ⟨h.ex⟩
theorem MkK.tr {Γ : Gam} {X : Cx} {c np : Nat} {x : Str} {g : Fn Γ} {ks : List Str} {n1 : Nat} {pre : List D} (h : MkK Γ X c x np g ks n1 pre) (pn : List (Addr × Obj)) (xe : Value → Shared → Prop) : MkK Γ (X.tr pn xe) c x np g ks n1 pre := ⟨h.ex⟩
theorem Gd.tr {Γ : Gam} {X : Cx} (h : Gd Γ X) (pn : List (Addr × Obj)) (xe : Value → Shared → Prop) : Gd Γ (X.tr pn xe) := ⟨h.k, h.calm, h.un, h.nd⟩
section
variable {Γ : Gam} {X : Cx} {A : List Nat} {CB : Addr} {fld : Str} {c np n : Nat} {g : Fn Γ} {x x1 x2 nm told : Str} {c1 c2 : Value} {zf : List D → Option Str} {pre : List D} {as : List (AE Γ)} {e : Expr} {es : List Expr} {kws : List Keyword} {ks : List Str} {p pos ep np1 np2 hp1 hp2 tpos tp nnp ap sp rp : Pos} {b1 : Stmt} {st1 : List Stmt}
end
end G

set_option maxHeartbeats 4000000
namespace G
open PySem L2

section
variable {Γ : Gam} {X : Cx} {A : List Nat} {a b c e : Expr} {es : List Expr} {fa fb : AE Γ} {f g h : Ev Γ} {pos : Pos}
structure ClI (X : Cx) (x f : Str) (i : Int) : Prop where
  ex : ∃ C mc t, X.mg x = some (.ref C) ∧ ClX.CRead X.K C mc ∧ PySem.W.findCls X.K (.ref C) mc f = some (.val (.int i t))
theorem Dats.rep {M : Addr → Prop} {H : Hp} {vs : List V} {ds : List D} (h : Dats Γ M H vs ds) : ∀ n : Nat, Dats Γ M H (List.replicate n vs).flatten (List.replicate n ds).flatten
  | 0 => .nil
  | n + 1 => by rw [List.replicate_succ, List.replicate_succ, List.flatten_cons, List.flatten_cons]; exact h.append (h.rep n)
end
end G

set_option maxHeartbeats 4000000
namespace G
open PySem L2
section
variable {Γ : Gam} {X : Cx} {A : List Nat} {a b c e : Expr} {es : List Expr} {fa fb fc : Ev Γ} {pos : Pos}
end
end G

set_option maxHeartbeats 4000000
namespace G
open PySem L2
section
variable {Γ : Gam} {X : Cx} {A : List Nat} {a b c e : Expr} {es : List Expr} {fa fb fc : Ev Γ} {pos : Pos}
end
end G

set_option maxHeartbeats 4000000
namespace G
open PySem L2
section
variable {prog : Program} {w : World} {A : Around} {E : Value → Shared → Prop} {s : Shared} {K : PySem.W.Frag} {x C f L : Addr} {h₀ : Heap} {m : Str → Option Value} {ox : Obj} {od : Option Obj} {b tb : Value}
end
end G

set_option maxHeartbeats 4000000
namespace G
open PySem L2
structure OwnN (Γ : Gam) (X : Cx) (c : Nat) (g : Fn Γ) : Prop where
  ex : ∃ C ns k f fd ps, Γ.cls c = some (C, ns) ∧ PySem.W.findIn X.K (.ref C) "__eq__" = some (some (.ref f)) ∧ PySem.W.isFn X.K (.ref f) = true ∧ PySem.W.findIn X.K (.ref C) "__ne__" = some (some (.builtin "object.__ne__")) ∧ PySem.W.subIn X.K (.ref C) (.type "object") = some true ∧
    PySem.W.notFirst X.K C (.type "int") = true ∧ FnOk X.prog X.w X.K X.mg X.base CX0 k f fd ps (spG Γ 2 g) ∧ Room (k + 1) X.A ∧ Binds X.K fd ps []
section
variable {Γ : Gam} {X : Cx} {c : Nat} {g : Fn Γ} {a b : Expr} {pos : Pos} {fa fb : AE Γ} {σ : St} {env env' : Env Γ} {w : Wd}
end
end G

set_option maxHeartbeats 4000000
namespace G
open PySem L2
structure IsN (Γ : Gam) (X : Cx) (c : Nat) (x : Str) : Prop where
  ex : ∃ C ns, Γ.cls c = some (C, ns) ∧ X.mg x = some (.ref C) ∧ Cls X.K C ∧ PySem.W.findIn X.K (.ref C) "__class__" = some (some (.builtin "object.__class__")) ∧ PySem.W.specialIn X.K (.builtin "object.__class__") "__get__" = some (some (.builtin "getset_descriptor.__get__")) ∧
    PySem.W.takesIn X.K (.builtin "object.__class__") = some true ∧ PySem.W.mroIn X.K C (.type "object") = some true ∧ PySem.W.kitOne X.K (.ref C) (.ref C) = some true ∧ PySem.W.kitOne X.K (.type "int") (.ref C) = some false
section
variable {Γ : Gam} {X : Cx} {a : Expr} {fa : AE Γ} {pos : Pos}
end
section
variable (Γ : Gam) (P : Program) (w : World) (mg : Str → Option Value) (base : Heap)
structure INCa (c : Nat) (x : Str) : Prop where
  ex : ∃ C ns, Γ.cls c = some (C, ns) ∧ mg x = some (.ref C) ∧ Cls Γ.K C ∧ PySem.W.findIn Γ.K (.ref C) "__class__" = some (some (.builtin "object.__class__")) ∧ PySem.W.specialIn Γ.K (.builtin "object.__class__") "__get__" = some (some (.builtin "getset_descriptor.__get__")) ∧
    PySem.W.takesIn Γ.K (.builtin "object.__class__") = some true ∧ PySem.W.mroIn Γ.K C (.type "object") = some true ∧ PySem.W.kitOne Γ.K (.ref C) (.ref C) = some true ∧ PySem.W.kitOne Γ.K (.type "int") (.ref C) = some false
structure ClICa (x f : Str) (i : Int) : Prop where
  ex : ∃ C mc t, mg x = some (.ref C) ∧ ClX.CRead Γ.K C mc ∧ PySem.W.findCls Γ.K (.ref C) mc f = some (.val (.int i t))
structure MkCa (c : Nat) (x : Str) (np : Nat) (g : Fn Γ) (ks : List Str) (n1 : Nat) (pre : List D) (k : Nat) : Prop where
  ex : ∃ C ns f fd ps, Γ.cls c = some (C, ns) ∧ Mk Γ.K C f ∧ mg x = some (.ref C) ∧ FnOk P w Γ.K mg base CX0 k f fd ps (spG Γ np g) ∧ KBd Γ Γ.K fd ps ks n1 pre
structure MzCa (c : Nat) (x : Str) (CB : Addr) (fld : Str) (zf : List D → Option Str) (ks : List Str) (n1 : Nat) (pre : List D) (k : Nat) : Prop where
  ex : ∃ C ns f fd ps, Γ.cls c = some (C, ns) ∧ Mk Γ.K C f ∧ mg x = some (.ref C) ∧ FnOk P w Γ.K mg base (L2.CX P w) k f fd ps (spRz Γ c C CB fld zf) ∧ KBd Γ Γ.K fd ps ks n1 pre
structure OnCa (c : Nat) (g : Fn Γ) (k : Nat) : Prop where
  ex : ∃ C ns f fd ps, Γ.cls c = some (C, ns) ∧ PySem.W.findIn Γ.K (.ref C) "__eq__" = some (some (.ref f)) ∧ PySem.W.isFn Γ.K (.ref f) = true ∧ PySem.W.findIn Γ.K (.ref C) "__ne__" = some (some (.builtin "object.__ne__")) ∧ PySem.W.subIn Γ.K (.ref C) (.type "object") = some true ∧
    PySem.W.notFirst Γ.K C (.type "int") = true ∧ FnOk P w Γ.K mg base CX0 k f fd ps (spG Γ 2 g) ∧ Binds Γ.K fd ps []
structure BdCa (x : Str) (CB : Addr) (fld : Str) (ok : V → Prop) (k : Nat) : Prop where
  ex : ∃ fI fd ps, FnOk P w Γ.K mg base CX0 k fI fd ps (spSup CB fld ok) ∧ Binds Γ.K fd ps [] ∧ PySem.W.findIn Γ.K (.ref CB) "__init__" = some (some (.ref fI)) ∧ PySem.W.typeIn Γ.K (.ref fI) = some (.type "function")
  T : OexC Γ.K CB
  mg : mg x = some (.ref CB)
end
section
variable {Γ : Gam} {X : Cx} {c np k j n1 : Nat} {m x f : Str} {i : Int} {g : Fn Γ} {ks : List Str} {pre : List D} {CB : Addr} {fld : Str} {zf : List D → Option Str} {ok : V → Prop}
theorem INCa.is (hK : Γ.K = X.K) (h : INCa Γ X.mg c x) : IsN Γ X c x := by
  obtain ⟨C, ns, h1, h2, h3, h4, h5, h6, h7, h8, h9⟩ := h
  exact ⟨C, ns, h1, h2, hK ▸ h3, hK ▸ h4, hK ▸ h5, hK ▸ h6, hK ▸ h7, hK ▸ h8, hK ▸ h9⟩
theorem ClICa.cl (hK : Γ.K = X.K) (h : ClICa Γ X.mg x f i) : ClI X x f i := by
  obtain ⟨C, mc, t, h1, h2, h3⟩ := h
  exact ⟨C, mc, t, h1, hK ▸ h2, hK ▸ h3⟩
theorem MkCa.kw (hK : Γ.K = X.K) (h : MkCa Γ X.prog X.w X.mg X.base c x np g ks n1 pre k) (hr : Room j X.A) (l : k + 1 ≤ j) : MkK Γ X c x np g ks n1 pre := by
  obtain ⟨C, ns, f, fd, ps, h1, h2, h3, h4, h5⟩ := h
  exact ⟨C, ns, k, f, fd, ps, h1, hK ▸ h2, h3, hK ▸ h4, hr.mono l, hK ▸ h5⟩
theorem MzCa.z (hK : Γ.K = X.K) (h : MzCa Γ X.prog X.w X.mg X.base c x CB fld zf ks n1 pre k) (hr : Room j X.A) (l : k + 1 ≤ j) : MkZ Γ X c x CB fld zf ks n1 pre := by
  obtain ⟨C, ns, f, fd, ps, h1, h2, h3, h4, h5⟩ := h
  exact ⟨C, ns, k, f, fd, ps, h1, hK ▸ h2, h3, hK ▸ h4, hr.mono l, hK ▸ h5⟩
theorem OnCa.o (hK : Γ.K = X.K) (h : OnCa Γ X.prog X.w X.mg X.base c g k) (hr : Room j X.A) (l : k + 1 ≤ j) : OwnN Γ X c g := by
  obtain ⟨C, ns, f, fd, ps, h1, h2, h3, h4, h5, h6, h7, h8⟩ := h
  exact ⟨C, ns, k, f, fd, ps, h1, hK ▸ h2, hK ▸ h3, hK ▸ h4, hK ▸ h5, hK ▸ h6, hK ▸ h7, hr.mono l, hK ▸ h8⟩
theorem BdCa.b (hK : Γ.K = X.K) (h : BdCa Γ X.prog X.w X.mg X.base x CB fld ok k) (hr : Room j X.A) (l : k + 1 ≤ j) : BadC X x CB fld ok := by
  obtain ⟨⟨fI, fd, ps, h1, h2, h3, h4⟩, hT, hm⟩ := h
  exact ⟨⟨k, fI, fd, ps, hK ▸ h1, hr.mono l, hK ▸ h2, hK ▸ h3, hK ▸ h4⟩, hK ▸ hT, hm⟩
end
end G

set_option maxHeartbeats 4000000
namespace G
open PySem L2
section
variable {Γ : Gam} {X : Cx} {A : List Nat} {a b c : Expr} {pos : Pos}
end
end G

set_option maxHeartbeats 4000000
namespace G
open PySem L2
def flat : D → Bool
  | .non => true
  | .bl _ => true
  | .int _ => true
  | .str _ => true
  | _ => false
section
variable {Γ : Gam} {M : Addr → Prop} {H : Hp} {v : V} {p : Addr} {us : List V}
end
end G

set_option maxHeartbeats 4000000
namespace G
open PySem L2
def Gam.names (Γ : Gam) (c : Nat) : Option (List Str) := (Γ.cls c).map (·.2)
section
variable {Γ : Gam} {X : Cx} {e : Expr}
end
end G

set_option maxHeartbeats 4000000
namespace G
open PySem L2
section
variable {Γ : Gam} {X : Cx} {a b : Expr} {f : Ev Γ} {fb : AE Γ} {pos : Pos}
end
end G

set_option maxHeartbeats 4000000
namespace G
open PySem L2
section
variable {Γ : Gam} {X : Cx} {o : Expr} {f : Ev Γ} {g : Fn Γ} {c : Nat} {m : Str} {pos apos : Pos}
end
end G

set_option maxHeartbeats 4000000
namespace G
open PySem L2
section
variable {Γ : Gam} {X : Cx} {σ : St} {env env' : Env Γ} {w : Wd} {a b : Expr} {pos : Pos} {c : Nat} {g : Fn Γ} {fa fb : AE Γ}
end
end G

set_option maxHeartbeats 4000000
namespace G
open PySem L2
section
variable {Γ : Gam} {X : Cx} {a b : Expr} {q1 q2 : QE}
end
end G

set_option maxHeartbeats 4000000
namespace G
open PySem L2
section
variable {Γ : Gam} {X : Cx} {x z : Str} {npos apos cpos p3 : Pos} {j : Nat}
end
end G

set_option maxHeartbeats 4000000
namespace G
open PySem L2
section
variable {Γ : Gam} {X : Cx}
end
end G

set_option maxHeartbeats 4000000
namespace G
open PySem L2
section
variable {Γ : Gam} {X : Cx} {a b e : Expr} {pos : Pos}
end
end G

set_option maxHeartbeats 4000000
namespace G
open PySem L2
structure StrC (Γ : Gam) (X : Cx) (c : Nat) (g : Fn Γ) : Prop where
  ex : ∃ C ns k f fd ps, Γ.cls c = some (C, ns) ∧ PySem.W.findIn X.K (.ref C) "__str__" = some (some (.ref f)) ∧ PySem.W.isFn X.K (.ref f) = true ∧ FnOk X.prog X.w X.K X.mg X.base CX0 k f fd ps (spG Γ 1 g) ∧ Room (k + 2) X.A ∧ Binds X.K fd ps []
section
variable {Γ : Gam} {X : Cx} {a : Expr} {f : Ev Γ} {g : Fn Γ} {c : Nat} {pos : Pos}
end
end G

set_option maxHeartbeats 4000000
namespace G
open PySem L2
structure StrCa (Γ : Gam) (P : Program) (w : World) (mg : Str → Option Value) (base : Heap) (c : Nat) (g : Fn Γ) (k : Nat) : Prop where
  ex : ∃ C ns f fd ps, Γ.cls c = some (C, ns) ∧ PySem.W.findIn Γ.K (.ref C) "__str__" = some (some (.ref f)) ∧ PySem.W.isFn Γ.K (.ref f) = true ∧ FnOk P w Γ.K mg base CX0 k f fd ps (spG Γ 1 g) ∧ Binds Γ.K fd ps []
theorem StrCa.s {Γ : Gam} {X : Cx} {c k j : Nat} {g : Fn Γ} (hK : Γ.K = X.K) (h : StrCa Γ X.prog X.w X.mg X.base c g k) (hr : Room j X.A) (l : k + 2 ≤ j) : StrC Γ X c g := by
  obtain ⟨C, ns, f, fd, ps, h1, h2, h3, h4, h5⟩ := h
  exact ⟨C, ns, k, f, fd, ps, h1, hK ▸ h2, hK ▸ h3, hK ▸ h4, hr.mono l, hK ▸ h5⟩
end G

set_option maxHeartbeats 4000000
namespace G
open PySem L2
/-- an own error: its class, its attributes -/
structure Er where
  c : Nat
  fs : List (Str × D)
abbrev Ez (Γ : Gam) := Env Γ → Option (Er × Env Γ)
abbrev Fz (Γ : Gam) := List (Sl Γ) → Option (Er × List (Sl Γ))
/-- the error's own dict -/
structure XR (Γ : Gam) (w : Wd) (dx : Addr) (x : Er) : Prop where
  ex : x.fs ≠ [] → ∃ vs : List (Str × V), w.H dx = some (.xd vs) ∧ vs.map (·.1) = x.fs.map (·.1) ∧ Dats Γ w.M w.H (vs.map (·.2)) (x.fs.map (·.2))
  nm : x.fs ≠ [] → ¬ w.M dx
/-- the dict of an error: none if it has no attribute -/
def dxo (x : Er) (dx : Addr) : Option Addr := match x.fs with
  | [] => none
  | _ => some dx
def ZPost (Γ : Gam) (xc : Nat → Addr) (A : List Nat) (σ : St) (w : Wd) (W : WX) (x : Er) (env1 : Env Γ) : Prop :=
  ∀ σ' w' dx, ER Γ w' σ' env1 → Step w w' → Agree A σ σ' → XR Γ w' dx x → W (.ref (xc x.c)) (dxo x dx) σ' w'.H
def ZPostE (Γ : Gam) (xc : Nat → Addr) (σ : St) (w : Wd) (W : WX) (x : Er) (env1 : Env Γ) : Prop :=
  ∀ w' dx, ER Γ w' σ env1 → Step w w' → XR Γ w' dx x → W (.ref (xc x.c)) (dxo x dx) σ w'.H
structure SdZ1 (Γ : Gam) (X : Cx) (xc : Nat → Addr) (A : List Nat) (W : WX) (st : Stmt) (z : Ez Γ) : Prop where
  run : Gd Γ X → ∀ (σ : St) (env : Env Γ) (x : Er) (env1 : Env Γ) (w : Wd) (D : Ends), z env = some (x, env1) → ER Γ w σ env → ZPost Γ xc A σ w W x env1 → wS X st D σ w.H
instance {Γ : Gam} {X : Cx} {xc : Nat → Addr} {A : List Nat} {W : WX} {st : Stmt} {z : Ez Γ} : CoeFun (SdZ1 Γ X xc A W st z) (fun _ => Gd Γ X → ∀ (σ : St) (env : Env Γ) (x : Er) (env1 : Env Γ) (w : Wd) (D : Ends), z env = some (x, env1) → ER Γ w σ env → ZPost Γ xc A σ w W x env1 → wS X st D σ w.H) := ⟨SdZ1.run⟩
structure SdZs (Γ : Gam) (X : Cx) (xc : Nat → Addr) (A : List Nat) (W : WX) (sts : List Stmt) (z : Ez Γ) : Prop where
  run : Gd Γ X → ∀ (σ : St) (env : Env Γ) (x : Er) (env1 : Env Γ) (w : Wd) (D : Ends), z env = some (x, env1) → ER Γ w σ env → ZPost Γ xc A σ w W x env1 → wSs X sts D σ w.H
instance {Γ : Gam} {X : Cx} {xc : Nat → Addr} {A : List Nat} {W : WX} {sts : List Stmt} {z : Ez Γ} : CoeFun (SdZs Γ X xc A W sts z) (fun _ => Gd Γ X → ∀ (σ : St) (env : Env Γ) (x : Er) (env1 : Env Γ) (w : Wd) (D : Ends), z env = some (x, env1) → ER Γ w σ env → ZPost Γ xc A σ w W x env1 → wSs X sts D σ w.H) := ⟨SdZs.run⟩
structure SdZE (Γ : Gam) (X : Cx) (xc : Nat → Addr) (W : WX) (e : Expr) (z : Ez Γ) : Prop where
  run : Gd Γ X → ∀ (σ : St) (env : Env Γ) (x : Er) (env1 : Env Γ) (w : Wd) (Q : VK), z env = some (x, env1) → ER Γ w σ env → ZPostE Γ xc σ w W x env1 → wE X e σ w.H Q
instance {Γ : Gam} {X : Cx} {xc : Nat → Addr} {W : WX} {e : Expr} {z : Ez Γ} : CoeFun (SdZE Γ X xc W e z) (fun _ => Gd Γ X → ∀ (σ : St) (env : Env Γ) (x : Er) (env1 : Env Γ) (w : Wd) (Q : VK), z env = some (x, env1) → ER Γ w σ env → ZPostE Γ xc σ w W x env1 → wE X e σ w.H Q) := ⟨SdZE.run⟩
structure SdZT (Γ : Gam) (X : Cx) (xc : Nat → Addr) (W : WX) (e : Expr) (z : Ez Γ) : Prop where
  run : Gd Γ X → ∀ (σ : St) (env : Env Γ) (x : Er) (env1 : Env Γ) (w : Wd) (Q : Bool → Hp → Prop), z env = some (x, env1) → ER Γ w σ env → ZPostE Γ xc σ w W x env1 → wT X e σ w.H Q
instance {Γ : Gam} {X : Cx} {xc : Nat → Addr} {W : WX} {e : Expr} {z : Ez Γ} : CoeFun (SdZT Γ X xc W e z) (fun _ => Gd Γ X → ∀ (σ : St) (env : Env Γ) (x : Er) (env1 : Env Γ) (w : Wd) (Q : Bool → Hp → Prop), z env = some (x, env1) → ER Γ w σ env → ZPostE Γ xc σ w W x env1 → wT X e σ w.H Q) := ⟨SdZT.run⟩
section
variable {Γ : Gam} {X : Cx} {xc : Nat → Addr} {A : List Nat} {W : WX} {st : Stmt} {rest : List Stmt} {f : Es Γ} {z zf zg : Ez Γ} {e c : Expr} {pos : Pos}
theorem ZPost.step {σ σ1 : St} {w w1 : Wd} {x : Er} {env1 : Env Γ} (dom : ∀ a, w.M a → w.H a ≠ none) (p : Step w w1) (a : Agree A σ σ1) (h : ZPost Γ xc A σ w W x env1) : ZPost Γ xc A σ1 w1 W x env1 :=
  fun σ' w' dx E q b r => h σ' w' dx E (p.trans q dom) (a.trans b) r
theorem ZPostE.step {σ : St} {w w1 : Wd} {x : Er} {env1 : Env Γ} (dom : ∀ a, w.M a → w.H a ≠ none) (p : Step w w1) (h : ZPostE Γ xc σ w W x env1) : ZPostE Γ xc σ w1 W x env1 :=
  fun w' dx E q r => h w' dx E (p.trans q dom) r
theorem ZPost.toE {σ : St} {w : Wd} {x : Er} {env1 : Env Γ} (h : ZPost Γ xc A σ w W x env1) : ZPostE Γ xc σ w W x env1 :=
  fun w' dx E q r => h σ w' dx E q Agree.refl r
end
end G

set_option maxHeartbeats 4000000
namespace G
open PySem L2
section
variable {Γ : Gam} {X : Cx} {xc : Nat → Addr} {A : List Nat} {W : WX} {e : Expr} {x fld : Str} {ok : V → Prop} {c : Nat} {okd : D → Bool} {f : Ev Γ} {p p3 p4 : Pos}
end

def spZ (Γ : Gam) (xc : Nat → Addr) (np : Nat) (gz : Fz Γ) : Sp := fun vs H _ E => ∃ (args : List (Sl Γ)) (x : Er) (args' : List (Sl Γ)) (w : Wd), gz args = some (x, args') ∧ args.length = np ∧ w.H = H ∧ ER Γ w (vs.map some) args ∧
  ∀ w' dx, ER Γ w' (vs.map some) args' → Step w w' → XR Γ w' dx x → E (.ref (xc x.c)) (dxo x dx) w'.H
section
variable {Γ : Gam} {X : Cx} {xc : Nat → Addr} {σ : St} {W : WX}
structure Mz (Γ : Gam) (X : Cx) (xc : Nat → Addr) (c : Nat) (m : Str) (np : Nat) (gz : Fz Γ) : Prop where
  ex : ∃ C ns k f fd ps, Γ.cls c = some (C, ns) ∧ Cls X.K C ∧ Meth X.K C m f ∧ FnOk X.prog X.w X.K X.mg X.base (L2.CX X.prog X.w) k f fd ps (spZ Γ xc np gz) ∧ Room k X.A ∧ Binds X.K fd ps []
end

end G

set_option maxHeartbeats 4000000
namespace G
open PySem L2
section
variable {Γ : Gam} {X : Cx} {xc : Nat → Addr} {A : List Nat} {c : Nat} {fld nm told x1 : Str} {c1 : Value} {body : List Stmt} {f : Es Γ} {z : Ez Γ} {np1 hp1 tpos tp nnp ap sp rp : Pos}
end

section
variable {Γ : Gam} {X : Cx} {xc : Nat → Addr} {W : WX} {e : Expr} {x : Str} {npos apos cpos : Pos} {z : Ez Γ}
end

section
variable (Γ : Gam) (P : Program) (w : World) (mg : Str → Option Value) (base : Heap) (xc : Nat → Addr)
structure MyCa (c : Nat) (m : Str) (np : Nat) (gz : Fz Γ) (k : Nat) : Prop where
  ex : ∃ C ns f fd ps, Γ.cls c = some (C, ns) ∧ Cls Γ.K C ∧ Meth Γ.K C m f ∧ FnOk P w Γ.K mg base (L2.CX P w) k f fd ps (spZ Γ xc np gz) ∧ Binds Γ.K fd ps []
end
theorem MyCa.mz {Γ : Gam} {X : Cx} {xc : Nat → Addr} {c : Nat} {m : Str} {np : Nat} {gz : Fz Γ} {k j : Nat} (hK : Γ.K = X.K) (h : MyCa Γ X.prog X.w X.mg X.base xc c m np gz k) (hr : Room j X.A) (l : k ≤ j) : Mz Γ X xc c m np gz := by
  obtain ⟨C, ns, f, fd, ps, h1, h2, h3, h4, h5⟩ := h
  exact ⟨C, ns, k, f, fd, ps, h1, hK ▸ h2, hK ▸ h3, hK ▸ h4, hr.mono l, hK ▸ h5⟩
end G

set_option maxHeartbeats 4000000
namespace G
open PySem L2
theorem KDats.zip {Γ : Gam} {M : Addr → Prop} {H : Hp} : ∀ {ks : List Key} {vs : List V} {ds : List D}, Dats Γ M H vs ds → ks.length = vs.length → KDats Γ M H (ks.zip vs) (ks.zip ds)
  | [], _, _, _, _ => .nil
  | k :: ks, [], _, _, e => by simp at e
  | k :: ks, v :: vs, _, .cons h r, e => by
    rw [List.zip_cons_cons, List.zip_cons_cons]
    exact .cons h (KDats.zip r (by simpa using e))
/-- what a dict holds, owned or data -/
def Sl.dview {Γ : Gam} : Sl Γ → Option (List (Key × D))
  | .dic kvs => some kvs
  | .dat (.dic ks ds) => some (ks.zip ds)
  | _ => Option.none
section
variable {Γ : Gam} {X : Cx} {a b e : Expr} {fa fb : AE Γ} {pos : Pos}
theorem SR.dv {M : Addr → Prop} {H : Hp} {v : V} {s : Sl Γ} {G : Addr → Prop} {kvs : List (Key × D)} (h : SR Γ M H v s G) (e : s.dview = some kvs) : ∃ p vs, v = .ref p ∧ Rd H p (.dK vs) ∧ KDats Γ M H vs kvs := by
  cases s with
  | dic k =>
    cases e
    obtain ⟨p, vs, e, hp, r⟩ := h.dic
    exact ⟨p, vs, e, .inl hp, r⟩
  | dat d =>
    cases d with
    | dic ks ds =>
      cases e
      cases h.1 with
      | dic n hp l r => exact ⟨_, _, rfl, .inr ⟨_, hp⟩, KDats.zip r l⟩
    | _ => cases e
  | _ => cases e
end
end G

set_option maxHeartbeats 4000000
namespace G
open PySem L2
section
variable {Γ : Gam} {X : Cx} {a b c : Expr} {q1 q2 q3 : QE} {pos : Pos}
end
end G

set_option maxHeartbeats 4000000
namespace G
open PySem L2
section
variable {X : Cx}
theorem ns_Constant {c j p} : NS X (.Constant c j p) := fun _ => rfl
theorem ns_Name {x p} : NS X (.Name x p) := fun _ => rfl
theorem ns_Call {a b c p} : NS X (.Call a b c p) := fun _ => rfl
theorem ns_BinOp {a o b p} : NS X (.BinOp a o b p) := fun _ => rfl
theorem ns_IfExp {a b c p} : NS X (.IfExp a b c p) := fun _ => rfl
theorem ns_Subscript {a b p} : NS X (.Subscript a b p) := fun _ => rfl
theorem ns_List {a p} : NS X (.List a p) := fun _ => rfl
theorem ns_Tuple {a k p} : NS X (.Tuple a k p) := fun _ => rfl
end
end G

set_option maxHeartbeats 4000000
namespace G
open PySem L2
section
variable {Γ : Gam} {X : Cx} {σ : St} {env env' : Env Γ} {w : Wd} {e : Expr} {es : List Expr} {pos apos npos : Pos} {c np n : Nat} {g : Fn Γ} {as : List (AE Γ)} {m x : Str}
section
variable {CX : CXT} {k i : Nat} {f C : Addr} {fd : FuncData} {ps ks : List Str} {sp : Sp} {E : XK} {p : Pos} {kws : List Keyword} {pv : List V} {pu : List Value} {H : Hp} {Q : VK}
end
structure MkL (Γ : Gam) (X : Cx) (c np : Nat) (g : Fn Γ) (ks : List Str) (n1 : Nat) (pre : List D) : Prop where
  ex : ∃ C ns k f fd ps, Γ.cls c = some (C, ns) ∧ Mk X.K C f ∧ FnOk X.prog X.w X.K X.mg X.base CX0 k f fd ps (spG Γ np g) ∧ Room (k + 1) X.A ∧ KBd Γ X.K fd ps ks n1 pre
end
end G

set_option maxHeartbeats 4000000
namespace G
open PySem L2 PySem.Spec
def leD (a b : D) : Bool := PySem.W.dataLe false D.toPy a b
def tup1 : D → Bool
  | .tup (_ :: _) => true
  | _ => false
def noTup : D → Bool
  | .non => false
  | .tup _ => false
  | .ins _ _ => false
  | .odd => false
  | .dic _ _ => false
  | .cls _ => false
  | .val _ _ => false
  | .raw _ => false
  | _ => true
def okSort (ds : List D) : Bool :=
  ds.all (fun a => ds.all fun b => PySem.W.alike a.toPy b.toPy) && ((ds.all tup1 || ds.all noTup) && (ds.all (fun a => decide (a.toPy.depth ≤ 40)) && (PyData.canLayAll0 (D.toPys ds) && decide (ds.length ≤ sizeLine))))
theorem okSort_iff {ds : List D} : okSort ds = true ↔ (∀ a ∈ ds, ∀ b ∈ ds, PySem.W.alike a.toPy b.toPy = true) ∧ ((∀ a ∈ ds, tup1 a = true) ∨ (∀ a ∈ ds, noTup a = true)) ∧ (∀ a ∈ ds, a.toPy.depth ≤ 40) ∧ PyData.canLayAll0 (D.toPys ds) = true ∧ ds.length ≤ sizeLine := by
  unfold okSort
  simp only [Bool.and_eq_true, Bool.or_eq_true, List.all_eq_true, decide_eq_true_eq]
def pSortD {Γ : Gam} (x : Sl Γ) : Option (Sl Γ) :=
  match x.view with
  | some (.lst ds) => if okSort ds = true then some (.lst (ds.mergeSort leD)) else none
  | _ => none
def rSortD (K : PySem.W.Frag) : List V → Hp → VK → Prop := fun vs H Q => ∃ (a : Addr) (xs : List V) (ds : List D), vs = [V.ref a] ∧ SqL K H a xs ∧ DpAll K H xs (D.toPys ds) ∧ okSort ds = true ∧
  ∀ p, H p = none → Q (.ref p) (upd H p (.lst (((xs.zip ds).mergeSort fun a b => leD a.2 b.2).map (·.1))))
section
variable {X : Cx} {pins : List (Addr × Obj)} {σ : St} {H : Hp} {s : Shared}
theorem dpAll_len {K : PySem.W.Frag} : ∀ {vs : List V} {ds : List PyData}, DpAll K H vs ds → vs.length = ds.length
  | _, _, .nil => rfl
  | _, _, .cons _ r => by rw [List.length_cons, List.length_cons, dpAll_len r]
theorem each_rel : ∀ {xs : List V} {its : List Value} (ds : List D), Vals xs its → xs.length = ds.length → PySem.W.EachIs (fun u (b : V × D) => RelV b.1 u) its (xs.zip ds)
  | [], _, ds, .nil, _ => .nil
  | _ :: _, _, [], .cons _ _, h => by simp at h
  | _ :: _, _, _ :: ds, .cons r rs, h => .cons r (each_rel ds rs (by simpa using h))
theorem each_reads (I : Inv X pins σ H s) : ∀ {xs : List V} {its : List Value} (ds : List D), Vals xs its → DpAll X.K H xs (D.toPys ds) → PySem.W.EachIs (fun u (b : V × D) => ∃ as, Reads s.heap u b.2.toPy as) its (xs.zip ds)
  | [], _, ds, .nil, _ => .nil
  | _ :: _, _, [], .cons _ _, h => by unfold D.toPys at h; cases h
  | x :: xs, _, d :: ds, .cons r rs, h => by
    have h' : DpAll X.K H (x :: xs) (d.toPy :: D.toPys ds) := by rw [D.toPys] at h; exact h
    cases h' with
    | cons h1 h2 => exact .cons (Dp.reads I _ _ _ h1 r) (each_reads I ds rs h2)
theorem each_vals : ∀ {out : List Value} {bs : List (V × D)}, PySem.W.EachIs (fun u (b : V × D) => RelV b.1 u) out bs → Vals (bs.map (·.1)) out
  | _, _, .nil => .nil
  | _, _, .cons h r => .cons h (each_vals r)
theorem cr_sortD (hu : X.A.units + 65 < cLine) : CallR X (.builtin "sorted") (rSortD X.K) := by
  intro pins s σ H vs us Q I r h
  obtain ⟨a, xs, ds, rfl, hs, hd, ok, q⟩ := h
  obtain ⟨its, rv, hl, hz⟩ := I.list hs
  rw [Vals.ref1 r]
  obtain ⟨k1, k2, k3, k4, k5⟩ := okSort_iff.mp ok
  have lx : xs.length = ds.length := by rw [dpAll_len hd, toPys_map, List.length_map]
  have mz : ∀ {b : V × D}, b ∈ xs.zip ds → b.2 ∈ ds := fun {b} hb => (List.of_mem_zip (a := b.1) (b := b.2) hb).2
  have lz : (xs.zip ds).length = ds.length := by rw [List.length_zip]; omega
  refine PySem.W.sorted_data (β := V × D) (vs := its) (bs := xs.zip ds) (enc := fun b => b.2.toPy) (R := fun u b => RelV b.1 u) hl.isList (each_rel ds rv lx) (each_reads I ds rv hd) ?_ ?_ (by rw [lz]; exact k5) (fun b hb => by have := k3 _ (mz hb); omega) fun out h1 h2 => ?_
  · intro d hd d' hd'
    obtain ⟨b, hb, rfl⟩ := List.mem_map.mp hd
    obtain ⟨b', hb', rfl⟩ := List.mem_map.mp hd'
    exact k1 _ (mz hb) _ (mz hb')
  · rcases k2 with z | z
    · refine .inl fun d hd => ?_
      obtain ⟨b, hb, rfl⟩ := List.mem_map.mp hd
      have := z _ (mz hb)
      cases e : b.2 with
      | tup ts =>
        cases ts with
        | nil => rw [e] at this; cases this
        | cons t ts => exact ⟨t.toPy, D.toPys ts, by rw [D.toPy, D.toPys]⟩
      | _ => rw [e] at this; cases this
    · refine .inr fun d hd => ?_
      obtain ⟨b, hb, rfl⟩ := List.mem_map.mp hd
      have := z _ (mz hb)
      cases e : b.2 <;> first
        | (rw [e] at this; cases this; done)
        | (rw [D.toPy]; exact ⟨(fun z => by cases z), (fun _ z => by cases z)⟩)
  · obtain ⟨ep, he'⟩ := PyProof.Rows.sortedAll_at s.heap its out.toArray
    have hlen : (((xs.zip ds).mergeSort fun a b => leD a.2 b.2).map (·.1)).length ≤ sizeLine := by
      rw [List.length_map, List.length_mergeSort, lz]
      exact k5
    exact ⟨.ref _, upd H (s.heap.objs.size + 1) (.lst (((xs.zip ds).mergeSort fun a b => leD a.2 b.2).map (·.1))), I.laid (t' := s.toks) (fun _ _ => PyProof.Rows.sortedAll_old) (Nat.le_succ _) ⟨hlen, out, ep, each_vals h2, he'⟩, rfl, q _ (I.hok.fresh (Nat.le_succ _))⟩
end
theorem Dats.zipPerm {Γ : Gam} {M : Addr → Prop} {H : Hp} : ∀ {bs : List (V × D)}, (∀ b ∈ bs, Dat Γ M H b.1 b.2) → Dats Γ M H (bs.map (·.1)) (bs.map (·.2))
  | [], _ => .nil
  | b :: bs, h => .cons (h b List.mem_cons_self) (Dats.zipPerm fun b hb => h b (List.mem_cons_of_mem _ hb))
theorem Dats.zipMem {Γ : Gam} {M : Addr → Prop} {H : Hp} : ∀ {vs : List V} {ds : List D}, Dats Γ M H vs ds → ∀ b ∈ vs.zip ds, Dat Γ M H b.1 b.2
  | _, _, .nil, b, hb => by simp at hb
  | _, _, .cons h r, b, hb => by
    rw [List.zip_cons_cons] at hb
    rcases List.mem_cons.mp hb with z | z
    · subst z; exact h
    · exact Dats.zipMem r b z
theorem pSortD_ok {Γ : Gam} : Prim1 Γ (fun x H Q => rSortD Γ.K [x] H Q) (pSortD (Γ := Γ)) := by
  intro M H x sx s Gx Q dom hp hx k
  unfold pSortD at hp
  split at hp
  · rename_i ds g1
    split at hp
    · rename_i ok
      cases hp
      obtain ⟨p, vs, rfl, hs, r⟩ := hx.list g1
      obtain ⟨k1, k2, k3, k4, k5⟩ := okSort_iff.mp ok
      refine ⟨p, vs, ds, rfl, hs, r.dp k4, ok, fun q hq => ?_⟩
      have r2 : Dats Γ M H (((vs.zip ds).mergeSort fun a b => leD a.2 b.2).map (·.1)) (((vs.zip ds).mergeSort fun a b => leD a.2 b.2).map (·.2)) :=
        Dats.zipPerm fun b hb => r.zipMem b ((List.mergeSort_perm _ _).mem_iff.mp hb)
      have e2 : ((vs.zip ds).mergeSort fun a b => leD a.2 b.2).map (·.2) = ds.mergeSort leD := by
        rw [List.map_mergeSort (s := leD) (fun a _ b _ => rfl), List.map_snd_zip (by rw [r.length]; exact Nat.le_refl _)]
      rw [e2] at r2
      exact k.lst r2 hq
    · cases hp
  · cases hp
section
variable {Γ : Gam} {X : Cx} {e : Expr} {fe : AE Γ} {p pos : Pos}
/-- sorted(xs) -/
theorem sd_sortD (hg : Gl X "sorted") (hm : X.mg "sorted" = none) (ha : SdA Γ X e fe) (hs : NS X e) : SdE Γ X (.Call (.Name "sorted" p) [e] [] pos) (m1 pSortD fe) := by
  refine ⟨?_⟩
  intro hK σ env r env' w Q he E k
  refine wE.of (pe_callB (id := "sorted") (x := "sorted") (cr_sortD hK.un) hg hm PyProof.Rows.boot_sorted (pa_cons pe_wE pa_nil (hs [])) (by decide) (by decide) (hs []) rfl) ?_
  rw [← hK.k]
  exact run1 pSortD_ok ha hK he E k
end
end G

set_option maxHeartbeats 4000000
namespace G
open PySem PySem.Spec PyProof.Rows L2
section
variable {P : Program} {w : World} {A : Around} {E : Value → Shared → Prop} {s : Shared}
end
end G

set_option maxHeartbeats 4000000
namespace G
open PySem PySem.Spec PyProof.Rows L2
section
variable {X : Cx}
end
section
variable {Γ : Gam} {X : Cx} {e : Expr} {p1 p2 p3 p4 : Pos}
end
end G

set_option maxHeartbeats 4000000
namespace G
open PySem PySem.Spec L2
section
variable {Γ : Gam} {X : Cx}
end
section
variable {Γ : Gam} {X : Cx} {e e2 : Expr} {f g : AE Γ} {p pos : Pos} {kws : List Keyword}
end
end G

set_option maxHeartbeats 4000000
namespace G
open PySem PySem.Spec PyProof.Rows L2
section
variable {prog : Program} {w : World} {A : Around} {E : Value → Shared → Prop} {s : Shared}
end
end G

set_option maxHeartbeats 4000000
namespace G
open PySem PySem.Spec PyProof.Rows L2
section
variable {Γ : Gam} {X : Cx} {a : Expr} {f : Ev Γ} {p pos tpos : Pos} {elts : List Expr} {kk : Nat}
end
end G

set_option maxHeartbeats 4000000
namespace G
open PySem PySem.Spec PyProof.Rows L2
/-- a tuple's iterator at i -/
def ItT (it t : Addr) (i : Nat) : HO := .ext fun h => h.IsTupleIter it t i
theorem itT_ok {P : Program} {w : World} {H : Hp} {h : Heap} {it t : Addr} {i : Nat} (q : h.IsTupleIter it t i) : ObjOk P w H h it (ItT it t i) := by
  have ⟨o, ho, _⟩ := q
  exact ⟨q, ⟨o, ho⟩, fun h1 h2 p k => Heap.IsTupleIter.at p k⟩
/-- .. that has ended -/
def ItX (it : Addr) : HO := .ext fun h => ∃ o, h.get? it = some o
theorem itX_ok {P : Program} {w : World} {H : Hp} {h : Heap} {it : Addr} (q : ∃ o, h.get? it = some o) : ObjOk P w H h it (ItX it) := ⟨q, q, fun h1 h2 ⟨o, p⟩ k => ⟨o, k o p⟩⟩
section
variable {prog : Program} {w : World} {A : Around} {E : Value → Shared → Prop} {s : Shared} {l : Addr} {items : Array Value}
end
section
variable {X : Cx} {pins : List (Addr × Obj)} {σ : L2.St} {H : Hp} {s : Shared}
/-- what __iter__ promises -/
def spIt (K : PySem.W.Frag) (C : Addr) (f : Str) : Sp := fun vs H Q _ => ∃ a dx fs t zs, vs = [.ref a] ∧ H a = some (.ins C dx fs) ∧ fs.lookup f = some (.ref t) ∧ SqT K H t zs ∧ ∀ it, H it = none → Q (.ref it) (upd H it (ItT it t 0))
theorem next_end {prog : Program} {w : World} {A : Around} {E : Value → Shared → Prop} {s : Shared} {it t : Addr} {i : Nat} {items : Array Value} {Q : Option Value → Shared → Prop} (hh : A.handled = none) (a : s.heap.IsTupleIter it t i) (b : s.heap.IsTuple t items) (hx : items[i]? = none)
    (k : ∀ h', (∀ b o, b ≠ it → s.heap.get? b = some o → h'.get? b = some o) → (∃ o, h'.get? it = some o) → Q none { s with heap := h' }) : wpAny (model prog w) A (pyNext (.ref it)) Q E s := by
  have ⟨o, ho, hc, hd⟩ := a
  have ⟨ol, hol, _, nl, hdl⟩ := b
  unfold pyNext
  apply wpAny_bind (wpAny_attempt (wpAny_callSpecial?_slot (name := Str.ofString "__next__") a.typeIs F.slot_tuple_iterator_next (wpAny_call_entry F.slot_tuple_iterator_next a.typeIs F.entry_tuple_iterator_next _ (F.args_tuple_iterator_next_1 _))))
  show wpAny _ _ (field (.ref it) 0 >>= _) _ _ _
  apply wpAny_bind (wpAny_field ho hd (x := .ref t) rfl _)
  show wpAny _ _ (if (Value.ref t == Value.none) = true then _ else _) _ _ _
  rw [if_neg (by exact Bool.false_ne_true)]
  show wpAny _ _ (field (.ref it) 1 >>= _) _ _ _
  apply wpAny_bind (wpAny_field ho hd (x := .int i 0) rfl _)
  show wpAny _ _ (seqItems? (.ref t) >>= _) _ _ _
  apply wpAny_bind (wpAny_seqItems hol hdl _)
  simp only [Int.toNat_natCast, hx]
  have gu := Heap.get?_update_self (Obj.mapFields (·.setIfInBounds 0 Value.none)) ho (Obj.isFreed_of_fields (Obj.data_mapFields hd _))
  refine wpAny_bind (wpAny_rule (wpAny_bind (wpAny_setField ho hd (by simp) ?_)))
  show wpAny _ _ (newExc (.type "StopIteration") [] >>= _) _ _ _
  apply wpAny_bind
  simp only [newExc, newTuple]
  apply wpAny_bind (wpAny_newObj_type _ (by size_fits))
  apply wpAny_bind (m := firstArgMember _ _) (wpAny_of_eq (a := Value.none) (by first | rfl | (simp only [firstArgMember]; rfl)) _)
  apply wpAny_newObj_type _ (by size_fits)
  simp only [raiseNew]
  apply wpAny_bind (wpAny_handled _)
  first | rw [show A.in1.handled = none from hh] | rw [hh]
  apply wpAny_bind (wpAny_pure (wpAny_throw _))
  refine (wpAny_bind (wpAny_isInstance (T := "StopIteration") (b := true) ⟨_, Heap.get?_push_size _ rfl, rfl⟩ isSubtype_stop ?_))
  exact wpAny_pure (k _ (fun b o hb e => Heap.get?_push_of_some _ (Heap.get?_push_of_some _ ((Heap.get?_update_other _ _ (Ne.symm hb)).trans e))) ⟨_, Heap.get?_push_of_some _ (Heap.get?_push_of_some _ gu)⟩)
/-- the iterator's turns fill the list at q -/
theorem it_loop {A1 : Around} {q it t : Addr} {zs : List V} {R : Result → Shared → Prop} (hh : A1.handled = none) (hne : q ≠ it) (hz : zs.length ≤ sizeLine)
    (done : ∀ H' s', Inv X pins σ H' s' → H' q = some (.lst zs) → (∀ b, b ≠ q → b ≠ it → H' b = H b) → R (.ok (.ret .none)) s') :
    ∀ (m i : Nat) (H1 : Hp) (s : Shared), zs.length - i = m → i ≤ zs.length → Inv X pins σ H1 s → SqT X.K H1 t zs → H1 q = some (.lst (zs.take i)) → H1 it = some (ItT it t i) → (∀ b, b ≠ q → b ≠ it → H1 b = H b) →
      codeAny (model X.prog X.w) A1 (.builtin "list.extend.loop" ⟨[.ref q, .ref it, .none], []⟩) R s := by
  intro m
  induction m with
  | zero =>
    intro i H1 s em hi I hT hq hit hk
    obtain rfl : i = zs.length := by omega
    refine codeAny_builtin PySem.F.entry_extend_loop ?_
    rw [Around.under_plainId PySem.F.plain_extend_loop _]
    show wpAny _ A1.in1 (pyNext (.ref it) >>= _) _ _ s
    obtain ⟨its, rv, ⟨o, ho, hc, n, hd⟩, _⟩ := I.tuple hT
    have st : s.heap.IsTupleIter it t zs.length := (I.hok it _ hit).1
    have hl := rv.length
    refine wpAny_bind (next_end (items := its.toArray) hh st ⟨o, ho, hc, n, hd⟩ (by simp; omega) fun h' eb ex => wpAny_pure ?_)
    refine done (upd H1 it (ItX it)) _ (I.write (t' := s.toks) (x := it) (e := it) (by rw [hit]; trivial) (.inl rfl) (fun b u hb e => eb b u hb e) ex (itX_ok ex)) ?_ fun b n1 n2 => ?_
    · rw [upd_ne hne, hq, List.take_length]
    · rw [upd_ne n2]; exact hk b n1 n2
  | succ m ih =>
    intro i H1 s em hi I hT hq hit hk
    have lt : i < zs.length := by omega
    refine codeAny_builtin PySem.F.entry_extend_loop ?_
    rw [Around.under_plainId PySem.F.plain_extend_loop _]
    show wpAny _ A1.in1 (pyNext (.ref it) >>= _) _ _ s
    obtain ⟨its, rv, ⟨o, ho, hc, n, hd⟩, _⟩ := I.tuple hT
    have st : s.heap.IsTupleIter it t i := (I.hok it _ hit).1
    obtain ⟨u, hu, ru⟩ := rv.get (List.getElem?_eq_getElem lt)
    refine wpAny_bind (wpAny_pyNext_tuple_item (items := its.toArray) (x := u) st ⟨o, ho, hc, n, hd⟩ (by simpa using hu) fun h' st' sb => ?_)
    have ⟨oi, hoi, _⟩ := st'
    have I1 : Inv X pins σ (upd H1 it (ItT it t (i + 1))) { s with heap := h' } := I.write (t' := s.toks) (x := it) (e := it) (by rw [hit]; trivial) (.inl rfl) (fun b u hb e => (sb.2 b hb).trans e) ⟨oi, hoi⟩ (itT_ok st')
    have hq1 : upd H1 it (ItT it t (i + 1)) q = some (.lst (zs.take i)) := by rw [upd_ne hne]; exact hq
    show wpAny _ A1.in1 (updateSeq q (·.push u) >>= _) _ _ _
    obtain ⟨z, vs, k, r2, hl, e⟩ := I1.lstM hq1
    have lk : (zs.take i).length = i := by rw [List.length_take]; omega
    refine wpAny_bind (wpAny_updateSeq e rfl (wpAny_pure ⟨plainId_quiet PySem.F.plain_extend_loop _, ?_⟩) (by rw [List.size_toArray]; omega) (by show (vs.toArray.push u).size ≤ sizeLine + 1; rw [Array.size_push, List.size_toArray]; omega))
    have tk : zs.take i ++ [zs[i]] = zs.take (i + 1) := by rw [List.take_add_one, List.getElem?_eq_getElem lt]; rfl
    have I2 := I1.lset (f := (·.push u)) (its' := vs ++ [u]) (t' := s.toks) hq1 e (by simp) (r2.append (.cons ru .nil)) (by rw [List.length_append, List.length_singleton]; omega)
    rw [tk] at I2
    have nt : ∀ b xs, H1 b = some (.tup xs) → b ≠ it ∧ b ≠ q := fun b xs y => ⟨(fun z => by rw [z, hit] at y; cases y), (fun z => by rw [z, hq] at y; cases y)⟩
    refine ih (i + 1) _ _ (by omega) lt I2 ?_ upd_same (by rw [upd_ne (Ne.symm hne), upd_same]) fun b n1 n2 => by rw [upd_ne n1, upd_ne n2]; exact hk b n1 n2
    rcases hT with hT | hT
    · refine .inl ?_
      rcases hT with hT | ⟨ob, hT⟩
      · obtain ⟨n1, n2⟩ := nt t _ hT
        exact .inl (by rw [upd_ne n2, upd_ne n1]; exact hT)
      · have n1 : t ≠ it := fun z => by rw [z, hit] at hT; cases hT
        have n2 : t ≠ q := fun z => by rw [z, hq] at hT; cases hT
        exact .inr ⟨ob, by rw [upd_ne n2, upd_ne n1]; exact hT⟩
    · exact .inr hT
/-- a class with such an __iter__, without __len__ and __length_hint__ -/
structure ItK (K : PySem.W.Frag) (C fi : Addr) : Prop where
  it : PySem.W.findIn K (.ref C) "__iter__" = some (some (.ref fi))
  itF : PySem.W.isFn K (.ref fi) = true
  nolen : PySem.W.findIn K (.ref C) "__len__" = some none
  nohint : PySem.W.findIn K (.ref C) "__length_hint__" = some none
end
end G

set_option maxHeartbeats 4000000
namespace G
open PySem PySem.Spec PyProof.Rows L2
section
variable {X : Cx} {C fi : Addr} {fd : FuncData} {ps : List Str} {n : Nat} {f : Str}
end
section
variable {Γ : Gam} {X : Cx} {e : Expr} {f : Ev Γ} {p pos : Pos} {c : Nat} {fld : Str}
structure ItF (Γ : Gam) (X : Cx) (c : Nat) (fld : Str) : Prop where
  ex : ∃ C ns fi fd ps n, Γ.cls c = some (C, ns) ∧ ItK X.K C fi ∧ FnOk X.prog X.w X.K X.mg X.base CX0 n fi fd ps (spIt X.K C fld) ∧ Binds X.K fd ps [] ∧ Room (n + 2) X.A
end
end G

set_option maxHeartbeats 4000000
namespace G
open PySem L2
section
variable {Γ : Gam} {X : Cx} {σ : St} {env env' : Env Γ} {w : Wd} {a b : Expr} {pos : Pos} {c : Nat} {g : Fn Γ} {fa fb : AE Γ} {op : Operator}
structure OwnB (Γ : Gam) (X : Cx) (c : Nat) (op : Operator) (g : Fn Γ) : Prop where
  ex : ∃ C ns k f fd ps, Γ.cls c = some (C, ns) ∧ PySem.W.findIn X.K (.ref C) (PySem.dunder op.info.2) = some (some (.ref f)) ∧ PySem.W.isFn X.K (.ref f) = true ∧ PySem.W.selfFirst X.K C = true ∧ FnOk X.prog X.w X.K X.mg X.base CX0 k f fd ps (spG Γ 2 g) ∧ Room k X.A ∧ Binds X.K fd ps []
structure OwnT (Γ : Gam) (X : Cx) (c : Nat) (g : Fn Γ) : Prop where
  ex : ∃ C ns k f fd ps, Γ.cls c = some (C, ns) ∧ PySem.W.findIn X.K (.ref C) "__eq__" = some (some (.ref f)) ∧ PySem.W.isFn X.K (.ref f) = true ∧ PySem.W.notFirst X.K C (.type "tuple") = true ∧ FnOk X.prog X.w X.K X.mg X.base CX0 k f fd ps (spG Γ 2 g) ∧ Room k X.A ∧ Binds X.K fd ps []
structure OwnI (Γ : Gam) (X : Cx) (c : Nat) (g : Fn Γ) : Prop where
  ex : ∃ C ns k f fd ps, Γ.cls c = some (C, ns) ∧ PySem.W.findIn X.K (.ref C) "__contains__" = some (some (.ref f)) ∧ PySem.W.isFn X.K (.ref f) = true ∧ FnOk X.prog X.w X.K X.mg X.base CX0 k f fd ps (spG Γ 2 g) ∧ Room (k + 1) X.A ∧ Binds X.K fd ps []
end
end G

set_option maxHeartbeats 4000000
namespace G
open PySem L2
/-- the list at Dd that is being filled -/
structure Acc {Γ : Gam} (w w1 : Wd) (Dd : Addr) (σ : St) (env : Env Γ) (w' : Wd) (accD : List D) : Prop where
  ex : ∃ acc, w'.H Dd = some (.lst acc) ∧ Dats Γ w'.M w'.H acc accD
  er : ER Γ w' σ env
  st : Step w w'
  go : Go w1.M w1.H w'.M w'.H
  m : w'.M Dd
  off : ∀ j, ¬ w'.F j Dd
theorem wipe_wipe {σ : St} {vs vs1 : List Nat} (h : ∀ i ∈ vs1, i ∈ vs) : L2.wipe (L2.wipe σ vs1) vs = L2.wipe σ vs := by
  apply List.ext_getElem?
  intro j
  rw [wipe_get, wipe_get, wipe_get]
  by_cases hv : j ∈ vs
  · rw [if_pos hv, if_pos hv]
    split
    · cases σ[j]? <;> rfl
    · rfl
  · rw [if_neg hv, if_neg hv, if_neg fun z => hv (h j z)]
section
variable {Γ : Gam} {X : Cx}
theorem Acc.next {w w1 w' w2 : Wd} {Dd : Addr} {σ : St} {env : Env Γ} {accD : List D} {σ2 : St} {env2 : Env Γ} (a : Acc w w1 Dd σ env w' accD) (dom : ∀ x, w.M x → w.H x ≠ none) (E2 : ER Γ w2 σ2 env2) (p : Step w' w2) : Acc w w1 Dd σ2 env2 w2 accD := by
  obtain ⟨acc, h1, h2⟩ := a.ex
  exact ⟨⟨acc, p.keep Dd _ a.off h1, h2.go (a.er.go p)⟩, E2, a.st.trans p dom, a.go.trans (a.er.go p), p.mu Dd a.off a.m, p.off a.off (by rw [h1]; simp)⟩
theorem tyes {σ : St} {H : Hp} {P R : Hp → Prop} (h : P H) : tYes σ H fun b H3 => if b = true then P H3 else R H3 := by
  unfold tYes
  exact Eq.mpr (if_pos rfl) h
def bI (X : Cx) (scope : Scope) (tg iter : Expr) : TI := fun σ H R => AllB X scope fun Y => wI Y tg iter σ H R
end
end G

set_option maxHeartbeats 4000000
namespace G
open PySem L2
section
variable {Γ : Gam} {X : Cx} {A : List Nat}
end
section
variable {Γ : Gam} {X : Cx} {o e : Expr} {es : List Expr} {f : Ev Γ} {g : Fn Γ} {c np : Nat} {m : Str} {as : List (AE Γ)} {pos apos : Pos}
end
end G

set_option maxHeartbeats 4000000
namespace G
open PySem L2
abbrev Rws := List (Key × List D)
def addG : Rws → Key → D → Rws
  | [], k, y => [(k, [y])]
  | (k', ds) :: r, k, y => if k' = k then (k', ds ++ [y]) :: r else (k', ds) :: addG r k y
inductive RowsG (Γ : Gam) (M : Addr → Prop) (H : Hp) : Rws → List (Key × V) → List Addr → Prop
  | nil : RowsG Γ M H [] [] []
  | cons {k : Key} {ds : List D} {q : Addr} {vs : List V} {r : Rws} {kvs : List (Key × V)} {qs : List Addr} : H q = some (.lst vs) → Dats Γ M H vs ds → RowsG Γ M H r kvs qs → RowsG Γ M H ((k, ds) :: r) ((k, .ref q) :: kvs) (q :: qs)
theorem RowsG.len {Γ : Gam} {M : Addr → Prop} {H : Hp} : ∀ {r : Rws} {kvs : List (Key × V)} {qs : List Addr}, RowsG Γ M H r kvs qs → kvs.length = r.length ∧ qs.length = r.length
  | _, _, _, .nil => ⟨rfl, rfl⟩
  | _, _, _, .cons _ _ t => by
    obtain ⟨a, b⟩ := t.len
    exact ⟨by rw [List.length_cons, List.length_cons, a], by rw [List.length_cons, List.length_cons, b]⟩
theorem RowsG.go {Γ : Gam} {M M' : Addr → Prop} {H H' : Hp} (g : Go M H M' H') : ∀ {r : Rws} {kvs : List (Key × V)} {qs : List Addr}, RowsG Γ M H r kvs qs → (∀ q ∈ qs, ∀ u, H q = some u → H' q = some u) → RowsG Γ M' H' r kvs qs
  | _, _, _, .nil, _ => .nil
  | _, _, _, .cons h d t, k => .cons (k _ List.mem_cons_self _ h) (d.go g) (t.go g fun q hq => k q (List.mem_cons_of_mem _ hq))
theorem RowsG.snoc {Γ : Gam} {M : Addr → Prop} {H : Hp} {k : Key} {q : Addr} {vs : List V} {ds : List D} (h : H q = some (.lst vs)) (d : Dats Γ M H vs ds) : ∀ {r : Rws} {kvs : List (Key × V)} {qs : List Addr}, RowsG Γ M H r kvs qs → RowsG Γ M H (r ++ [(k, ds)]) (kvs ++ [(k, .ref q)]) (qs ++ [q])
  | _, _, _, .nil => .cons h d .nil
  | _, _, _, .cons h' d' t => .cons h' d' (t.snoc h d)
/-- the row of k: none, or it is at q -/
theorem RowsG.at {Γ : Gam} {M : Addr → Prop} {H : Hp} {k : Key} : ∀ {r : Rws} {kvs : List (Key × V)} {qs : List Addr}, RowsG Γ M H r kvs qs → qs.Nodup →
    (valV kvs k = none ∧ ∀ ds y, addG (r ++ [(k, ds)]) k y = r ++ [(k, ds ++ [y])] ∧ (ds = [] → addG r k y = r ++ [(k, [y])])) ∨
    ∃ q vs, valV kvs k = some (.ref q) ∧ q ∈ qs ∧ H q = some (.lst vs) ∧ (∃ ds, (k, ds) ∈ r ∧ Dats Γ M H vs ds) ∧ ∀ (M' : Addr → Prop) (H' : Hp) (v : V) (y : D), Go M H M' H' → (∀ p ∈ qs, p ≠ q → ∀ u, H p = some u → H' p = some u) → H' q = some (.lst (vs ++ [v])) → Dat Γ M' H' v y → RowsG Γ M' H' (addG r k y) kvs qs
  | _, _, _, .nil, _ => .inl ⟨rfl, fun ds y => ⟨by simp [addG], fun _ => rfl⟩⟩
  | (k', ds0) :: r, _, _, .cons (q := q0) (vs := vs0) h d t, nd => by
    obtain ⟨n1, n2⟩ := List.nodup_cons.mp nd
    by_cases e : k' = k
    · subst e
      refine .inr ⟨q0, vs0, by rw [valV_pos rfl], List.mem_cons_self, h, ⟨ds0, List.mem_cons_self, d⟩, fun M' H' v y g kp hq hv => ?_⟩
      unfold addG
      rw [if_pos rfl]
      exact .cons hq ((d.go g).append (.cons hv .nil)) (t.go g fun p hp => kp p (List.mem_cons_of_mem _ hp) fun z => n1 (z ▸ hp))
    · rcases RowsG.at (k := k) t n2 with ⟨h1, h2⟩ | ⟨q, vs, h1, h2, h3, ⟨ds1, h6, h7⟩, h4⟩
      · refine .inl ⟨by rw [valV_neg e]; exact h1, fun ds y => ?_⟩
        obtain ⟨a, b⟩ := h2 ds y
        refine ⟨?_, fun z => ?_⟩
        · rw [List.cons_append]; unfold addG; rw [if_neg e, a]; rfl
        · unfold addG; rw [if_neg e, b z]; rfl
      · refine .inr ⟨q, vs, by rw [valV_neg e]; exact h1, List.mem_cons_of_mem _ h2, h3, ⟨ds1, List.mem_cons_of_mem _ h6, h7⟩, fun M' H' v y g kp hq hv => ?_⟩
        unfold addG
        rw [if_neg e]
        exact .cons (kp q0 List.mem_cons_self (fun z => n1 (z ▸ h2)) _ h) (d.go g) (h4 M' H' v y g (fun p hp hn => kp p (List.mem_cons_of_mem _ hp) hn) hq hv)
/-- the loop fills the dict at p0; its rows are at qs -/
structure Grp (Γ : Gam) (w : Wd) (G0 : Addr → Prop) (H0 : Hp) (w' : Wd) (σ : St) (env : Env Γ) (ip : Nat) (p0 : Addr) (rows : Rws) (kvs : List (Key × V)) (qs : List Addr) : Prop where
  er : ER Γ w' σ env
  st : Step w w'
  sp : σ[ip]? = some (some (.ref p0))
  hp : w'.H p0 = some (.dK kvs)
  rw : RowsG Γ w'.M w'.H rows kvs qs
  nd : (p0 :: qs).Nodup
  m : ∀ a ∈ p0 :: qs, w'.M a
  off : ∀ a ∈ p0 :: qs, ∀ i, ¬ w'.F i a
  new : ∀ q ∈ qs, w.H q = none
  o0 : (∃ i, w.F i p0) ∨ w.H p0 = none
  go : Go G0 H0 w'.M w'.H
section
variable {Γ : Gam} {X : Cx} {G0 : Addr → Prop} {H0 : Hp} {w w' w2 : Wd} {σ σ2 : St} {env env2 : Env Γ} {ip iw : Nat} {p0 : Addr} {rows : Rws} {kvs : List (Key × V)} {qs : List Addr}
theorem Grp.live (g : Grp Γ w G0 H0 w' σ env ip p0 rows kvs qs) : ∀ a ∈ p0 :: qs, w'.H a ≠ none := fun a ha => g.er.dom a (g.m a ha)
theorem Grp.next (g : Grp Γ w G0 H0 w' σ env ip p0 rows kvs qs) (dom : ∀ a, w.M a → w.H a ≠ none) (E : ER Γ w2 σ2 env2) (p : Step w' w2) (sp : σ2[ip]? = some (some (.ref p0))) : Grp Γ w G0 H0 w2 σ2 env2 ip p0 rows kvs qs where
  er := E
  st := g.st.trans p dom
  sp := sp
  hp := p.keep p0 _ (g.off p0 List.mem_cons_self) g.hp
  rw := g.rw.go (g.er.go p) fun q hq u e => p.keep q u (g.off q (List.mem_cons_of_mem _ hq)) e
  nd := g.nd
  m := fun a ha => p.mu a (g.off a ha) (g.m a ha)
  off := fun a ha => p.off (g.off a ha) (g.live a ha)
  new := g.new
  o0 := g.o0
  go := g.go.trans (g.er.go p)
theorem RowsG.kd {M M' : Addr → Prop} {H : Hp} (g : Go M H M' H) : ∀ {r : Rws} {kvs : List (Key × V)} {qs : List Addr}, RowsG Γ M H r kvs qs → (∀ q ∈ qs, ¬ M' q) → KDats Γ M' H kvs (r.map fun r => (r.1, .lst r.2))
  | _, _, _, .nil, _ => .nil
  | _, _, _, .cons h d t, n => .cons (.lst (n _ List.mem_cons_self) h (d.go g)) (t.kd g fun q hq => n q (List.mem_cons_of_mem _ hq))
end
section
variable {Γ : Gam} {X : Cx} {A A0 : List Nat} {tg iter e : Expr} {fi : Ei Γ} {t : Eg Γ} {fe : Ev Γ} {pos p1 p2 p3 p4 p5 p6 p7 p8 p9 p10 p11 : Pos} {ip dv iw : Nat} {xp xd xw : Str}
end
end G

set_option maxHeartbeats 4000000
namespace G
open PySem L2
section
variable {Γ : Gam} {X : Cx} {A : List Nat} {st : Stmt} {g : Es Γ}
end
end G

set_option maxHeartbeats 4000000
namespace G
open PySem L2
structure IsT (Γ : Gam) (X : Cx) (c : Nat) (x : Str) : Prop where
  ex : ∃ C ns, Γ.cls c = some (C, ns) ∧ X.mg x = some (.ref C) ∧ Cls X.K C ∧ PySem.W.findIn X.K (.ref C) "__class__" = some (some (.builtin "object.__class__")) ∧ PySem.W.specialIn X.K (.builtin "object.__class__") "__get__" = some (some (.builtin "getset_descriptor.__get__")) ∧
    PySem.W.takesIn X.K (.builtin "object.__class__") = some true ∧ PySem.W.mroIn X.K C (.type "object") = some true ∧ PySem.W.kitOne X.K (.ref C) (.ref C) = some true ∧ PySem.W.kitOne X.K (.type "tuple") (.ref C) = some false
section
variable {Γ : Gam} {X : Cx} {a : Expr} {fa : AE Γ} {pos : Pos}
end
section
variable (Γ : Gam) (P : Program) (w : World) (mg : Str → Option Value) (base : Heap)
structure IsTCa (c : Nat) (x : Str) : Prop where
  ex : ∃ C ns, Γ.cls c = some (C, ns) ∧ mg x = some (.ref C) ∧ Cls Γ.K C ∧ PySem.W.findIn Γ.K (.ref C) "__class__" = some (some (.builtin "object.__class__")) ∧ PySem.W.specialIn Γ.K (.builtin "object.__class__") "__get__" = some (some (.builtin "getset_descriptor.__get__")) ∧
    PySem.W.takesIn Γ.K (.builtin "object.__class__") = some true ∧ PySem.W.mroIn Γ.K C (.type "object") = some true ∧ PySem.W.kitOne Γ.K (.ref C) (.ref C) = some true ∧ PySem.W.kitOne Γ.K (.type "tuple") (.ref C) = some false
structure BoCa (c : Nat) (op : Operator) (g : Fn Γ) (k : Nat) : Prop where
  ex : ∃ C ns f fd ps, Γ.cls c = some (C, ns) ∧ PySem.W.findIn Γ.K (.ref C) (PySem.dunder op.info.2) = some (some (.ref f)) ∧ PySem.W.isFn Γ.K (.ref f) = true ∧ PySem.W.selfFirst Γ.K C = true ∧ FnOk P w Γ.K mg base CX0 k f fd ps (spG Γ 2 g) ∧ Binds Γ.K fd ps []
structure TeCa (c : Nat) (g : Fn Γ) (k : Nat) : Prop where
  ex : ∃ C ns f fd ps, Γ.cls c = some (C, ns) ∧ PySem.W.findIn Γ.K (.ref C) "__eq__" = some (some (.ref f)) ∧ PySem.W.isFn Γ.K (.ref f) = true ∧ PySem.W.notFirst Γ.K C (.type "tuple") = true ∧ FnOk P w Γ.K mg base CX0 k f fd ps (spG Γ 2 g) ∧ Binds Γ.K fd ps []
structure InCa (c : Nat) (g : Fn Γ) (k : Nat) : Prop where
  ex : ∃ C ns f fd ps, Γ.cls c = some (C, ns) ∧ PySem.W.findIn Γ.K (.ref C) "__contains__" = some (some (.ref f)) ∧ PySem.W.isFn Γ.K (.ref f) = true ∧ FnOk P w Γ.K mg base CX0 k f fd ps (spG Γ 2 g) ∧ Binds Γ.K fd ps []
structure ItCa (c : Nat) (fld : Str) (k : Nat) : Prop where
  ex : ∃ C ns fi fd ps, Γ.cls c = some (C, ns) ∧ ItK Γ.K C fi ∧ FnOk P w Γ.K mg base CX0 k fi fd ps (spIt Γ.K C fld) ∧ Binds Γ.K fd ps []
end
section
variable {Γ : Gam} {X : Cx} {c np k j n1 : Nat} {m x fld : Str} {g : Fn Γ} {ks : List Str} {pre : List D} {op : Operator}
theorem IsTCa.is (hK : Γ.K = X.K) (h : IsTCa Γ X.mg c x) : IsT Γ X c x := by
  obtain ⟨C, ns, h1, h2, h3, h4, h5, h6, h7, h8, h9⟩ := h
  exact ⟨C, ns, h1, h2, hK ▸ h3, hK ▸ h4, hK ▸ h5, hK ▸ h6, hK ▸ h7, hK ▸ h8, hK ▸ h9⟩
theorem MkCa.ml (hK : Γ.K = X.K) (h : MkCa Γ X.prog X.w X.mg X.base c x np g ks n1 pre k) (hr : Room j X.A) (l : k + 1 ≤ j) : MkL Γ X c np g ks n1 pre := by
  obtain ⟨C, ns, f, fd, ps, h1, h2, h3, h4, h5⟩ := h
  exact ⟨C, ns, k, f, fd, ps, h1, hK ▸ h2, hK ▸ h4, hr.mono l, hK ▸ h5⟩
theorem BoCa.b (hK : Γ.K = X.K) (h : BoCa Γ X.prog X.w X.mg X.base c op g k) (hr : Room j X.A) (l : k ≤ j) : OwnB Γ X c op g := by
  obtain ⟨C, ns, f, fd, ps, h1, h2, h3, h4, h5, h6⟩ := h
  exact ⟨C, ns, k, f, fd, ps, h1, hK ▸ h2, hK ▸ h3, hK ▸ h4, hK ▸ h5, hr.mono l, hK ▸ h6⟩
theorem TeCa.t (hK : Γ.K = X.K) (h : TeCa Γ X.prog X.w X.mg X.base c g k) (hr : Room j X.A) (l : k ≤ j) : OwnT Γ X c g := by
  obtain ⟨C, ns, f, fd, ps, h1, h2, h3, h4, h5, h6⟩ := h
  exact ⟨C, ns, k, f, fd, ps, h1, hK ▸ h2, hK ▸ h3, hK ▸ h4, hK ▸ h5, hr.mono l, hK ▸ h6⟩
theorem InCa.i (hK : Γ.K = X.K) (h : InCa Γ X.prog X.w X.mg X.base c g k) (hr : Room j X.A) (l : k + 1 ≤ j) : OwnI Γ X c g := by
  obtain ⟨C, ns, f, fd, ps, h1, h2, h3, h4, h5⟩ := h
  exact ⟨C, ns, k, f, fd, ps, h1, hK ▸ h2, hK ▸ h3, hK ▸ h4, hr.mono l, hK ▸ h5⟩
theorem ItCa.it (hK : Γ.K = X.K) (h : ItCa Γ X.prog X.w X.mg X.base c fld k) (hr : Room j X.A) (l : k + 2 ≤ j) : ItF Γ X c fld := by
  obtain ⟨C, ns, fi, fd, ps, h1, h2, h3, h4⟩ := h
  exact ⟨C, ns, fi, fd, ps, k, h1, hK ▸ h2, hK ▸ h3, hK ▸ h4, hr.mono l⟩
end
end G

set_option maxHeartbeats 4000000
namespace G
open PySem L2
end G

set_option maxHeartbeats 4000000
namespace G
open PySem L2
structure FunV (K : PySem.W.Frag) (x qual : Str) (st : Stmt) (f : Addr) (fd : FuncData) : Prop where
  ex : ∃ (oc : Value) (od : Option Addr) (dV kV doc pm : Value) (an : Option Addr) (cdv ct : Value) (osl : Array (Option Value)),
    fd = PySem.W.fnOf x qual (defArgs st) (defBody st) (defScope st) dV kV doc pm an cdv ct ∧ K.lookup f = some ⟨oc, od, .func fd, osl⟩ ∧ PySem.W.codeIn K cdv qual = true
section
variable {P : Program} {w : World} {K : PySem.W.Frag} {mg : Str → Option Value} {base : Heap}
theorem FunV.ok {x qual : Str} {st : Stmt} {f : Addr} {fd : FuncData} {N ps : List Str} {k : Nat} {sp : Sp} (F : FunV K x qual st f fd) (S : FnScope N ps (defScope st)) (len : ∀ vs H Q E, sp vs H Q E → vs.length = ps.length)
    (hbody : ∀ (cdv : Value) (A : Around) (outer : List PySem.Env) (s : Shared) (H : Hp) (vs : List V) (Q : VK) (E : XK), Room k (A.deeper (PyProof.Rows.envOfC qual (defScope st) s.heap.objs.size f cdv)) → sp vs H Q E →
      ∃ t, PSs (cxOf CX0 P w K mg base N qual (defScope st) f cdv A outer s H E).nox (defBody st) t ∧ t { nx := fun _ H' => Q .non H', rt := Q } (L2.start N vs) H) : FnOk P w K mg base CX0 (k + 1) f fd ps sp := by
  obtain ⟨oc, od, dV, kV, doc, pm, an, cdv, ct, osl, rfl, lk, hcd⟩ := F.ex
  refine fn_of lk hcd S len fun A outer s H vs Q E hr hsp => ?_
  obtain ⟨t, h, q⟩ := hbody cdv A outer s H vs Q E hr hsp
  exact ⟨t, h.nox, q⟩
end
section
variable {Γ : Gam}
end
section
variable {P : Program} {w : World} {K : PySem.W.Frag} {mg : Str → Option Value} {base : Heap}
end
end G

set_option maxHeartbeats 4000000
namespace G
open PySem L2
theorem Dat.kind {Γ : Gam} {M : Addr → Prop} {H : Hp} : ∀ {v : V} {d : D}, Dat Γ M H v d → v = .non ∨ (∃ b, v = .bl b) ∨ (∃ i, v = .int i) ∨ (∃ x, v = .str x) ∨ ∃ a, v = .ref a
  | _, _, .non => .inl rfl
  | _, _, .bl b => .inr (.inl ⟨b, rfl⟩)
  | _, _, .int i => .inr (.inr (.inl ⟨i, rfl⟩))
  | _, _, .str x => .inr (.inr (.inr (.inl ⟨x, rfl⟩)))
  | _, _, .tup _ _ => .inr (.inr (.inr (.inr ⟨_, rfl⟩)))
  | _, _, .lst _ _ _ => .inr (.inr (.inr (.inr ⟨_, rfl⟩)))
  | _, _, .ins _ _ _ _ _ => .inr (.inr (.inr (.inr ⟨_, rfl⟩)))
  | _, _, .odd _ _ => .inr (.inr (.inr (.inr ⟨_, rfl⟩)))
  | _, _, .dic _ _ _ _ => .inr (.inr (.inr (.inr ⟨_, rfl⟩)))
  | _, _, .cls _ => .inr (.inr (.inr (.inr ⟨_, rfl⟩)))
  | _, _, .val h => Dat.kind h
  | _, _, .raw _ => .inr (.inr (.inr (.inr ⟨_, rfl⟩)))
section
variable {Γ : Gam} {X : Cx} {pins : List (Addr × Obj)} {σ : St} {s : Shared} {M : Addr → Prop} {H : Hp}
end
section
variable {Γ : Gam} {X : Cx} {A : List Nat} {e : Expr} {sts : List Stmt}
open Classical in
open Classical in
end
end G

set_option maxHeartbeats 4000000
namespace G
open PySem L2
section
variable {X : Cx} {e : Expr} {es : List Expr} {ta : TA} {x : Str} {CM : Addr} {p1 p2 pos : Pos}
end
end G

set_option maxHeartbeats 4000000
namespace G
open PySem PySem.W L2
section
variable {prog : Program} {w : World} {A : Around} {E : Value → Shared → Prop} {K : Frag} {x D : Addr} {ox : Obj} {oo : Option Obj}
end
end G

set_option maxHeartbeats 4000000
namespace G
open PySem L2
section
variable {X : Cx} {CX : CXT} {k : Nat} {C p g : Addr} {mc : Value} {sp : Sp} {E : St → XK} {o e : Expr} {es : List Expr} {m : Str} {pos apos : Pos} {ta : TE} {t : TA} {pl : Sem Bool}
end
section
variable {Γ : Gam} {X : Cx} {xc : Nat → Addr} {W : WX} {c np : Nat} {x m : Str} {gz : Fz Γ} {o e : Expr} {es : List Expr} {as : List (AE Γ)} {npos apos pos : Pos} {z : Ez Γ} {g : Fn Γ}
end
section
variable {Γ : Gam} {X : Cx} {xc : Nat → Addr} {A : List Nat} {c np n : Nat} {g : Fn Γ} {fld nm x x1 xb : Str} {c1 : Value} {CB CM : Addr} {body : List Stmt} {f : Es Γ} {z : Ez Γ} {zf : List D → Option Str} {pre : List D} {as : List (AE Γ)} {e : Expr} {es : List Expr} {kws : List Keyword} {ks : List Str} {np1 hp1 tpos nnp nnp2 ap tp sp p pos ep ip ip2 ip3 ep2 : Pos} {x0 jj : Nat}
end
end G

set_option maxHeartbeats 4000000
namespace G
open PySem L2
section
variable {X : Cx} {o e f : Expr} {td ty tx : TE} {apos cpos : Pos}
end
def findT : List (List Key × D) → List Key → Option D
  | [], _ => none
  | (k', d) :: r, k => if k' = k then some d else findT r k
theorem TDats.find {Γ : Gam} {M : Addr → Prop} {H : Hp} {k : List Key} : ∀ {vs : List (List Key × V)} {ds : List (List Key × D)}, TDats Γ M H vs ds → (valV vs k = none ∧ findT ds k = none) ∨ ∃ v d, valV vs k = some v ∧ findT ds k = some d ∧ Dat Γ M H v d
  | _, _, .nil => .inl ⟨rfl, rfl⟩
  | (k', v) :: vs, (_, d) :: ds, .cons h r => by
    by_cases e : k' = k
    · exact .inr ⟨v, d, valV_pos e, by unfold findT; rw [if_pos e], h⟩
    · rcases TDats.find (k := k) r with ⟨a, b⟩ | ⟨v1, d1, a, b, c⟩
      · exact .inl ⟨by rw [valV_neg e]; exact a, by unfold findT; rw [if_neg e]; exact b⟩
      · exact .inr ⟨v1, d1, by rw [valV_neg e]; exact a, by unfold findT; rw [if_neg e]; exact b, c⟩
theorem TDats.len {Γ : Gam} {M : Addr → Prop} {H : Hp} : ∀ {vs : List (List Key × V)} {ds : List (List Key × D)}, TDats Γ M H vs ds → vs.length = ds.length
  | _, _, .nil => rfl
  | _, _, .cons _ r => by rw [List.length_cons, List.length_cons, TDats.len r]
theorem TDats.snoc {Γ : Gam} {M : Addr → Prop} {H : Hp} {k : List Key} {v : V} {d : D} (h : Dat Γ M H v d) : ∀ {vs : List (List Key × V)} {ds : List (List Key × D)}, TDats Γ M H vs ds → TDats Γ M H (vs ++ [(k, v)]) (ds ++ [(k, d)])
  | _, _, .nil => .cons h .nil
  | _, _, .cons h' r => .cons h' (r.snoc h)
section
variable {Γ : Gam} {X : Cx} {σ : St} {env env' : Env Γ} {w : Wd} {pos : Pos} {es : List Expr} {as : List (AE Γ)}
end
end G

set_option maxHeartbeats 4000000
namespace G
open PySem PySem.Spec L2
section
variable {Γ : Gam} {X : Cx}
variable {e e2 : Expr} {f g : AE Γ} {p pos : Pos} {kws : List Keyword}
end
end G

set_option maxHeartbeats 4000000
namespace G
open PySem L2
section
variable {Γ : Gam} {X : Cx} {a b : Expr} {f g : Ev Γ} {pos : Pos}
end
end G

set_option maxHeartbeats 4000000
namespace G
open PySem L2
/-- what the written part says of a def whose body says super(): D is its class -/
structure SuK (P : Program) (K : PySem.W.Frag) (D f cda cc : Addr) (me : Str) : Prop where
  ex : ∃ (fd : FuncData) (oc ccl cl : Value) (od cdd cld : Option Addr) (osl ccs csl : Array (Option Value)) (vs0 : Array Value) (file : Str) (tf : Tok) (ar : Arg) (cdD : ClassData),
    K.lookup f = some ⟨oc, od, .func fd, osl⟩ ∧ K.lookup cda = some ⟨ccl, cdd, .fields vs0, ccs⟩ ∧ vs0[2]? = some (.str file tf) ∧ ((P.main.file : Str) == file) = true ∧ K.lookup cc = some ⟨cl, cld, .cell (some (.ref D)), csl⟩ ∧ PySem.W.clsIn K D = some cdD ∧
    (fd.params.posonlyargs ++ fd.params.args).head? = some ar ∧ ar.arg = me
  sub : PySem.W.mroIn K D (.ref D) = some true
  op : PySem.W.nsIn K cStatics "thirdparty.any" = some none
  top : (P.main.scope.names.lookup ("super" : Str)).isSome = false
/-- its scope: the parameters and __class__ -/
structure SuS (ps : List Str) (scope : Scope) : Prop where
  kind : scope.kind = .function
  co : scope.isCoroutine = false
  gen : scope.isGenerator = false
  nd : ps.Nodup
  par : ∀ x ∈ ps, scope.names.lookup x = some .local
  sp : scope.names.lookup ("super" : Str) = some .globalImplicit
  cl : scope.names.lookup ("__class__" : Str) = some .free
  nc : ∀ x ∈ scope.names, x.2 ≠ .cell
  fr : ∀ x ∈ scope.names, x.2 = .free → x.1 = "__class__"
/-- the code that runs is such a def's -/
structure AtK (X : Cx) (D : Addr) : Prop where
  ex : ∃ (qual : Str) (scope : Scope) (ps : List Str) (L f cda cc : Addr) (me : Str), X.env = PySem.W.ksEnv qual scope L f (.ref cda) cc ∧ SuK X.prog X.K D f cda cc me ∧ SuS ps scope ∧ ps[0]? = some me ∧ X.N[0]? = some me
  mg : X.mg "super" = none
end G

set_option maxHeartbeats 4000000
namespace G
open PySem L2
def wSA (X : Cx) (b0 : List Stmt) (st : Stmt) : TS := fun D σ H => ∀ pins s, Inv X pins σ H s → wpAt (model X.prog X.w) X.A (.func b0 X.env) (exec st X.env) (SP X pins D) X.xe s
def wSsA (X : Cx) (b0 : List Stmt) (st : List Stmt) : TS := fun D σ H => ∀ pins s, Inv X pins σ H s → wpAt (model X.prog X.w) X.A (.func b0 X.env) (execs st X.env) (SP X pins D) X.xe s
section
variable {X : Cx} {b0 : List Stmt} {st : Stmt} {sts : List Stmt} {D : Ends} {σ : St} {H : Hp}
theorem wSA.of (h : wS X st D σ H) : wSA X b0 st D σ H := fun pins s I => wpAt_of_wpAny (h pins s I)
theorem wSsA.of (h : wSs X sts D σ H) : wSsA X b0 sts D σ H := fun pins s I => wpAt_of_wpAny (h pins s I)
theorem wSsA.cons (h : wSA X b0 st { D with nx := wSsA X b0 sts D } σ H) : wSsA X b0 (st :: sts) D σ H := fun pins s I => by
  refine ks_wpAt_execs_cons (ks_wpAt_mono (h pins s I) (fun f s' q => ?_) fun _ _ z => z)
  cases f with
  | next =>
    obtain ⟨σ', H', I', q⟩ := q
    exact q pins s' I'
  | ret v => exact q
  | brk => exact q
  | cont => exact q
end
structure SdSA (Γ : Gam) (X : Cx) (A : List Nat) (b0 : List Stmt) (st : Stmt) (f : Es Γ) : Prop where
  run : Gd Γ X → ∀ (σ : St) (env : Env Γ) (fl : Fl Γ) (env' : Env Γ) (w : Wd) (D : Ends), f env = some (fl, env') → ER Γ w σ env → Post Γ A σ w D fl env' → wSA X b0 st D σ w.H
structure SdSsA (Γ : Gam) (X : Cx) (A : List Nat) (b0 : List Stmt) (st : List Stmt) (f : Es Γ) : Prop where
  run : Gd Γ X → ∀ (σ : St) (env : Env Γ) (fl : Fl Γ) (env' : Env Γ) (w : Wd) (D : Ends), f env = some (fl, env') → ER Γ w σ env → Post Γ A σ w D fl env' → wSsA X b0 st D σ w.H
section
variable {Γ : Gam} {X : Cx} {A : List Nat} {b0 : List Stmt} {st : Stmt} {rest sts : List Stmt} {g h' : Es Γ} {f : Ev Γ} {e : Expr} {pos : Pos}
theorem SdS.at (h : SdS Γ X A st g) : SdSA Γ X A b0 st g := ⟨fun hK σ env fl env' w D he E k => wSA.of (h hK σ env fl env' w D he E k)⟩
theorem SdSs.at (h : SdSs Γ X A sts g) : SdSsA Γ X A b0 sts g := ⟨fun hK σ env fl env' w D he E k => wSsA.of (h hK σ env fl env' w D he E k)⟩
end
section
variable {Γ : Gam} {X : Cx} {b0 : List Stmt} {c np k0 : Nat} {D f2 : Addr} {name : Str} {g : Fn Γ} {fd : FuncData} {ps ns : List Str} {e : Expr} {es : List Expr} {as : List (AE Γ)} {p0 p1 p2 p3 : Pos}
end
end G

set_option maxHeartbeats 4000000
namespace G
open PySem L2
/-- the frame of such a def -/
def cxK (P : Program) (w : World) (K : PySem.W.Frag) (mg : Str → Option Value) (base : Heap) (N : List Str) (env : PySem.Env) (A : Around) (outer : List PySem.Env) (s : Shared) (H : Hp) (xe : Value → Shared → Prop) : Cx where
  prog := P
  w := w
  K := K
  mg := mg
  base := base
  A := A.deeper env
  N := N
  s_0 := s
  H_0 := H
  env := env
  outer := outer
  stack := env :: outer
  ex := []
  calm := true
  fn := fun _ => false
  pn := []
  xe := xe
end G

set_option maxHeartbeats 4000000
namespace G
open PySem L2
end G

set_option maxHeartbeats 4000000
namespace G
open PySem PySem.Spec PySem.W PyProof.Rows L2
section
variable {prog : Program} {w : World} {A : Around} {E : Value → Shared → Prop} {s : Shared} {K : PySem.W.Frag} {x C f : Addr} {ox : Obj} {od : Option Obj} {b : Value} {tb : Value}
end
end G

set_option maxHeartbeats 4000000
namespace G
open PySem L2
section
variable {Γ : Gam} {X : Cx}
/-- instances of the table's classes: ==, != -/
structure EqT (Γ : Gam) (X : Cx) (tab : Nat → Option (Fn Γ)) : Prop where
  ex : ∀ c g, tab c = some g → ∃ C ns k f fd ps, Γ.cls c = some (C, ns) ∧ PySem.W.findIn X.K (.ref C) "__eq__" = some (some (.ref f)) ∧ PySem.W.isFn X.K (.ref f) = true ∧ FnOk X.prog X.w X.K X.mg X.base CX0 k f fd ps (spG Γ 2 g) ∧ Room (k + 1) X.A ∧ Binds X.K fd ps [] ∧
    PySem.W.findIn X.K (.ref C) "__ne__" = some (some (.builtin "object.__ne__")) ∧ PySem.W.mroIn X.K C (.type "object") = some true ∧ PySem.W.notFirst X.K C (.type "int") = true ∧ ∀ c' g' C' ns', tab c' = some g' → Γ.cls c' = some (C', ns') → PySem.W.notFirst X.K C (.ref C') = true
variable {σ : St} {env env' : Env Γ} {w : Wd} {a b : Expr} {pos : Pos} {tab : Nat → Option (Fn Γ)} {fa fb : AE Γ} {fl : Bool → Bool}
end
end G

set_option maxHeartbeats 4000000
namespace G
open PySem L2
section
variable {Γ : Gam} {X : Cx} {o e : Expr} {es : List Expr} {f : Ev Γ} {as : List (AE Γ)} {np : Nat} {m : Str} {tab : Nat → Option (Fn Γ)} {pos apos : Pos}
structure IsB (Γ : Gam) (X : Cx) (cs : List Nat) (x : Str) : Prop where
  ex : ∃ CB, X.mg x = some (.ref CB) ∧ PySem.W.kitOne X.K (.type "int") (.ref CB) = some false ∧ ∀ c ∈ cs, ∃ C ns, Γ.cls c = some (C, ns) ∧ Cls X.K C ∧ PySem.W.findIn X.K (.ref C) "__class__" = some (some (.builtin "object.__class__")) ∧ PySem.W.specialIn X.K (.builtin "object.__class__") "__get__" = some (some (.builtin "getset_descriptor.__get__")) ∧
    PySem.W.takesIn X.K (.builtin "object.__class__") = some true ∧ PySem.W.mroIn X.K C (.type "object") = some true ∧ PySem.W.kitOne X.K (.ref C) (.ref CB) = some true
end
end G

set_option maxHeartbeats 4000000
namespace G
open PySem L2
section
variable {Γ : Gam} {X : Cx} {xc : Nat → Addr} {W : WX} {c np n : Nat} {x : Str} {gz : Fz Γ} {e : Expr} {es : List Expr} {as : List (AE Γ)} {p pos : Pos}
end
section
variable {Γ : Gam} {X : Cx} {xc : Nat → Addr} {A : List Nat} {c : Nat} {told x1 : Str} {c1 : Value} {body : List Stmt} {f : Es Γ} {z : Ez Γ} {np1 hp1 tpos tp sp rp : Pos} {b : Bool}
end
end G

set_option maxHeartbeats 4000000
namespace G
open PySem L2
end G

set_option maxHeartbeats 4000000
namespace G
open PySem L2
section
variable {X : Cx} {CX : CXT} {k : Nat} {f C : Addr} {sp : Sp} {x : Str} {e : Expr} {es : List Expr} {te : TE} {t : TA} {p sp_ pos : Pos}
end
section
variable {Γ : Gam} {X : Cx} {xc : Nat → Addr} {W : WX} {c : Nat} {x : Str} {g : Fn Γ} {gz : Fz Γ} {e : Expr} {es : List Expr} {f : Ev Γ} {as : List (AE Γ)} {p sp_ pos : Pos}
end
end G

set_option maxHeartbeats 4000000
namespace G
open PySem L2 PyProof.Rows PySem.W
section
variable {X : Cx} {pos : Pos}
end
section
variable {Γ : Gam} {X : Cx} {A : List Nat}
end
end G

set_option maxHeartbeats 4000000
namespace G
open PySem L2
section
variable (Γ : Gam) (P : Program) (w : World) (mg : Str → Option Value) (base : Heap) (xc : Nat → Addr)
structure EqCa (tab : Nat → Option (Fn Γ)) (k : Nat) : Prop where
  ex : ∀ c g, tab c = some g → ∃ C ns f fd ps, Γ.cls c = some (C, ns) ∧ PySem.W.findIn Γ.K (.ref C) "__eq__" = some (some (.ref f)) ∧ PySem.W.isFn Γ.K (.ref f) = true ∧ FnOk P w Γ.K mg base CX0 k f fd ps (spG Γ 2 g) ∧ Binds Γ.K fd ps [] ∧
    PySem.W.findIn Γ.K (.ref C) "__ne__" = some (some (.builtin "object.__ne__")) ∧ PySem.W.mroIn Γ.K C (.type "object") = some true ∧ PySem.W.notFirst Γ.K C (.type "int") = true ∧ ∀ c' g' C' ns', tab c' = some g' → Γ.cls c' = some (C', ns') → PySem.W.notFirst Γ.K C (.ref C') = true
structure IsBC (cs : List Nat) (x : Str) : Prop where
  ex : ∃ CB, mg x = some (.ref CB) ∧ PySem.W.kitOne Γ.K (.type "int") (.ref CB) = some false ∧ ∀ c ∈ cs, ∃ C ns, Γ.cls c = some (C, ns) ∧ Cls Γ.K C ∧ PySem.W.findIn Γ.K (.ref C) "__class__" = some (some (.builtin "object.__class__")) ∧ PySem.W.specialIn Γ.K (.builtin "object.__class__") "__get__" = some (some (.builtin "getset_descriptor.__get__")) ∧
    PySem.W.takesIn Γ.K (.builtin "object.__class__") = some true ∧ PySem.W.mroIn Γ.K C (.type "object") = some true ∧ PySem.W.kitOne Γ.K (.ref C) (.ref CB) = some true
end
section
variable {Γ : Gam} {X : Cx} {c np k j n1 : Nat} {m x fld : Str} {g : Fn Γ} {gz : Fz Γ} {D : Addr} {xc : Nat → Addr} {tab : Nat → Option (Fn Γ)} {tabs : Nat → Option Str} {cs : List Nat}
theorem EqCa.q (hK : Γ.K = X.K) (h : EqCa Γ X.prog X.w X.mg X.base tab k) (hr : Room j X.A) (l : k + 1 ≤ j) : EqT Γ X tab := ⟨fun c g e => by
  obtain ⟨C, ns, f, fd, ps, h1, h2, h3, h4, h5, h6, h7, h8, h9⟩ := h.ex c g e
  exact ⟨C, ns, k, f, fd, ps, h1, hK ▸ h2, hK ▸ h3, hK ▸ h4, hr.mono l, hK ▸ h5, hK ▸ h6, hK ▸ h7, hK ▸ h8, fun c' g' C' ns' q1 q2 => hK ▸ h9 c' g' C' ns' q1 q2⟩⟩
theorem IsBC.is (hK : Γ.K = X.K) (h : IsBC Γ X.mg cs x) : IsB Γ X cs x := by
  obtain ⟨CB, h1, h2, h3⟩ := h
  exact ⟨CB, h1, hK ▸ h2, fun c e => by
    obtain ⟨C, ns, q1, q2, q3, q4, q5, q6, q7⟩ := h3 c e
    exact ⟨C, ns, q1, hK ▸ q2, hK ▸ q3, hK ▸ q4, hK ▸ q5, hK ▸ q6, hK ▸ q7⟩⟩
variable {b0 : List Stmt} {e : Expr} {es : List Expr} {as : List (AE Γ)} {p0 p1 p2 p3 : Pos}
end
end G

set_option maxHeartbeats 4000000
namespace G
open PySem L2 PyProof.Rows PySem.Spec
section
variable {X : Cx}
end
section
variable {Γ : Gam} {X : Cx}
end
end G

set_option maxHeartbeats 4000000
namespace G
open PySem L2
/-- the promise of a def, where no repr is under way -/
structure FnG (P : Program) (w : World) (K : PySem.W.Frag) (mg : Str → Option Value) (base : Heap) (CX : CXT) (k : Nat) (f : Addr) (fd : FuncData) (ps : List Str) (sp : Sp) : Prop where
  size : ∀ {vs : List V} {H : Hp} {Q : VK} {E : XK}, sp vs H Q E → vs.length = ps.length
  go : ∀ {A : Around} {outer : List PySem.Env} {s : Shared} {H : Hp} {args : Args} {us : List Value} {vs : List V} {Q : VK} {E : XK}, A.guards = some [] → Room k A → Env0 P w K mg base A outer s H → BindsTo s fd args (ps.zip us) → Vals vs us → sp vs H Q E →
    codeAny (model P w) A (.call (.ref f) args) (CR CX outer P w H s Q E) s
section
variable {P : Program} {w : World} {mg : Str → Option Value} {base : Heap} {K : PySem.W.Frag}
theorem FnG.of {CX : CXT} {k : Nat} {f : Addr} {fd : FuncData} {ps : List Str} {sp : Sp} (F : FnOk P w K mg base CX k f fd ps sp) : FnG P w K mg base CX k f fd ps sp :=
  ⟨fun h => F.len _ _ _ _ h, fun _ hr e hb v h => F.run _ _ _ _ _ _ _ _ _ hr e hb v h⟩
theorem FnG.imp {CX : CXT} {k : Nat} {f : Addr} {fd : FuncData} {ps : List Str} {sp sp' : Sp} (F : FnG P w K mg base CX k f fd ps sp) (h : ∀ vs H Q E, sp' vs H Q E → sp vs H Q E) : FnG P w K mg base CX k f fd ps sp' :=
  ⟨fun z => F.size (h _ _ _ _ z), fun g hr e hb v z => F.go g hr e hb v (h _ _ _ _ z)⟩
theorem FnG.mono {CX : CXT} {j k : Nat} {f : Addr} {fd : FuncData} {ps : List Str} {sp : Sp} (F : FnG P w K mg base CX j f fd ps sp) (h : j ≤ k) : FnG P w K mg base CX k f fd ps sp :=
  ⟨fun z => F.size z, fun g hr e hb v z => F.go g (hr.mono h) e hb v z⟩
end
section
variable {Γ : Gam} {P : Program} {w : World} {mg : Str → Option Value} {base : Heap}
end
/-- a def of the text as it may be called where no repr is under way -/
structure DfG (Γ : Gam) (X : Cx) (x : Str) (np : Nat) (g : Fn Γ) : Prop where
  ex : ∃ k f fd ps, FnG X.prog X.w X.K X.mg X.base CX0 k f fd ps (spG Γ np g) ∧ Room k X.A ∧ X.A.guards = some [] ∧ X.mg x = some (.ref f) ∧ PySem.W.keepIn X.K (.ref f) = true ∧ Binds X.K fd ps []
structure CaG (Γ : Gam) (P : Program) (w : World) (mg : Str → Option Value) (base : Heap) (x : Str) (np : Nat) (g : Fn Γ) (k : Nat) : Prop where
  ex : ∃ f fd ps, FnG P w Γ.K mg base CX0 k f fd ps (spG Γ np g) ∧ mg x = some (.ref f) ∧ PySem.W.keepIn Γ.K (.ref f) = true ∧ Binds Γ.K fd ps []
section
variable {Γ : Gam} {X : Cx}
theorem CaG.df {x : Str} {np : Nat} {g : Fn Γ} {k j : Nat} (hK : Γ.K = X.K) (c : CaG Γ X.prog X.w X.mg X.base x np g k) (hg : X.A.guards = some []) (hr : Room j X.A) (h : k ≤ j) : DfG Γ X x np g := by
  obtain ⟨f, fd, ps, h1, h2, h3, h4⟩ := c
  exact ⟨k, f, fd, ps, hK ▸ h1, hr.mono h, hg, h2, hK ▸ h3, hK ▸ h4⟩
end
end G

set_option maxHeartbeats 4000000
namespace G
open PySem L2
/-- the text of data -/
def shD (d : D) : Option Str := if (okD d && d.toPy.showable && decide (d.toPy.shown.length ≤ sizeLine)) = true then some d.toPy.shown else none
def pRepr {Γ : Gam} (x : Sl Γ) : Option (Sl Γ) :=
  match x.view with
  | some d => (shD d).map fun s => .dat (.str s)
  | none => none
def rRepr (K : PySem.W.Frag) : V → Hp → VK → Prop := fun x H Q => ∃ d : PyData, Dp K H x d ∧ SeqAt.shaped d = true ∧ d.showable = true ∧ d.shown.length ≤ sizeLine ∧ Q (.str d.shown) H
theorem call_reprD {X : Cx} (hu : X.A.units + 65 < cLine) (hg : X.A.guards = some []) : CallR X (.builtin "repr") (fun xs H Q => ∃ x, xs = [x] ∧ rRepr X.K x H Q) := by
  intro pins s σ H xs us Q I r h
  obtain ⟨x, rfl, d, hd, sh, sw, sz, q⟩ := h
  obtain ⟨u, rfl, rv⟩ := vals1 r
  obtain ⟨as, rd⟩ := Dp.reads I d x u hd rv
  have cl := SeqAt.canLay_of_shaped sh
  have dp := SeqAt.depth_of_shaped sh
  have nd : d.hasDict = true → sysModules ∉ as := PyData.noDict_hsm (PyData.hasDict_of_canLay d cl)
  have out : ∀ (h' : Heap) (t : Tok) (tk : Nat), (∀ b o, s.heap.get? b = some o → h'.get? b = some o) → EP X pins σ Q (.str d.shown t) { s with heap := h', toks := tk } := fun h' t tk hk => ⟨.str d.shown, H, I.kept hk, ⟨t, rfl⟩, q⟩
  cases rd with
  | none => exact PySem.P.repr_of_none (out s.heap _ _ fun _ _ e => e)
  | bool b =>
    refine PySem.P.repr_of_bool ?_
    cases b <;> exact out s.heap _ _ fun _ _ e => e
  | int i t => exact PySem.P.repr_of_int (by simpa [PyData.showable] using sw) (out s.heap _ _ fun _ _ e => e)
  | str y t => exact PySem.P.repr_of_str (out s.heap _ _ fun _ _ e => e) sz
  | list a b c e => exact repr_of_reads' (.list a b c e) sw nd hg (by omega) (fun _ _ e => e) (fun h' t tk hk => out h' t tk hk) sz
  | tuple a b c e => exact repr_of_reads' (.tuple a b c e) sw nd hg (by omega) (fun _ _ e => e) (fun h' t tk hk => out h' t tk hk) sz
  | dict a b c e f => exact repr_of_reads' (.dict a b c e f) sw nd hg (by omega) (fun _ _ e => e) (fun h' t tk hk => out h' t tk hk) sz
section
variable {Γ : Gam} {X : Cx}
theorem pRepr_ok : Prim1 Γ (rRepr Γ.K) (pRepr (Γ := Γ)) := by
  intro M H x sx s Gx Q dom hp hx k
  unfold pRepr at hp
  split at hp
  · rename_i d e1
    unfold shD at hp
    split at hp
    · rename_i c
      cases hp
      rw [Bool.and_eq_true, Bool.and_eq_true] at c
      exact ⟨d.toPy, hx.dp e1 (SeqAt.canLay_of_shaped c.1.1), c.1.1, c.1.2, of_decide_eq_true c.2, k.dat (.str _)⟩
    · cases hp
  · cases hp
theorem b_repr (hg : X.A.guards = some []) : Blt Γ X (.builtin "repr") (pN1 pRepr) :=
  ⟨_, fun g => CallR.imp (call_reprD g.un hg) fun xs H Q h => by
    obtain ⟨x, e, z⟩ := h
    exact ⟨x, e, by rw [← g.k]; exact z⟩, pN1_ok (r := rRepr Γ.K) pRepr_ok⟩
end
end G

set_option maxHeartbeats 4000000
namespace G
open PySem L2 PySem.Spec PyProof.Rows
section
variable {P : Program} {w : World} {K : PySem.W.Frag} {mg mb : Str → Option Value} {k : Nat} {fa a : Addr} {fd : FuncData} {x : Str} {sp : Sp} {s₁ : Shared} {vs : List Value} {ns : List Int}
/-- nothing but the script may be tracked, and it is no object of the module then -/
structure Lone (K : PySem.W.Frag) (a : Addr) (H : Hp) : Prop where
  at_ : ∀ b, H b ≠ none → b = a
  off : H a ≠ none → K.lookup a = none
theorem Lone.free {H : Hp} (L : Lone K a H) {b : Addr} (n : b ≠ a) : H b = none := by
  cases q : H b with
  | none => rfl
  | some u => exact absurd (L.at_ b (by rw [q]; exact nofun)) n
/-- what the law's call leaves -/
def LawEnd (s₁ : Shared) (r : Result) (s' : Shared) : Prop := r = .ok (.ret (.bool true)) ∧ OldK s₁.heap s'.heap ∧ s'.os = s₁.os ∧ AllBare s'.gens
theorem lawG_lone {H : Hp} (L : Lone K a H) (KX : K.In s₁.heap) (hns : s₁.heap.Ns mainGlobals mg) (hb : s₁.heap.Ns builtinsNs mb) (hbb : ∀ x : Str, x ≠ "__name__" → mb x = bootBuiltins x) (hlim : s₁.heap.NoLimit) (hg : s₁.gens = #[])
    (ha : s₁.heap.get? a = some { cls := .type "list", data := .seq vs.toArray }) (hr : Room k callerA) (F : ∀ base : Heap, K.In base → base.Ns mainGlobals mg → FnG P w K mg base CX0 k fa fd [x] sp)
    (hbind : BindsTo s₁ fd ⟨[.ref a], []⟩ [(x, .ref a)]) (hO : Only H) (hok : HOk P w H s₁.heap) (hsp : sp [.ref a] H (fun v _ => v = .bl true) fun _ _ _ => False) :
    codeAny (model P w) callerA (.call (.ref fa) ⟨[.ref a], []⟩) (LawEnd s₁) s₁ := by
  have there : ∀ {b : Addr} {o : Obj}, s₁.heap.get? b = some o → H b = none → (hidT s₁.heap H).get? b = some o := fun e n => hidT_get e n
  have isNs : ∀ {b : Addr} {m : Str → Option Value}, s₁.heap.Ns b m → (hidT s₁.heap H).Ns b m := fun {b m} z => by
    obtain ⟨o, es, ep, e, d, r⟩ := z
    refine ⟨o, es, ep, there e (L.free fun z => ?_), d, r⟩
    subst z
    rw [ha] at e
    cases e
    exact absurd d nofun
  have isK : K.In (hidT s₁.heap H) := fun b o e => by
    refine there (KX b o e) ?_
    cases q : H b with
    | none => rfl
    | some u =>
      have z := L.at_ b (by rw [q]; exact nofun)
      subst z
      rw [L.off (by rw [q]; exact nofun)] at e
      cases e
  obtain ⟨mc, lim1, lim2⟩ := hlim
  have E0 : Env0 P w K mg (hidT s₁.heap H) callerA [] s₁ H :=
    { frames := rfl, mod := ⟨isK, isNs hns, ⟨mb, isNs hb, hbb⟩, ⟨mc, isNs lim1, lim2⟩⟩, bs := fun _ _ e => of_hidT e, bsz := Nat.le_of_eq (hidT_size _ _), funs := trivial, frf := fun _ z => (nomatch z), hok := hok, bare := .of_eq hg }
  refine codeAny_mono ((F _ isK (isNs hns)).go (us := [.ref a]) (vs := [.ref a]) rfl hr E0 hbind (.cons rfl .nil) hsp) fun r s' out => ?_
  match r, out with
  | .ok (.ret u), out =>
    obtain ⟨v, H', os, bare, un, hok', rv, q⟩ := out
    have hv : v = .bl true := q
    subst hv
    have hu : u = Value.bool true := rv
    subst hu
    refine ⟨rfl, OldK.of_keep fun b o e => ?_, os, bare⟩
    rcases hO b with z | ⟨ob, xs, z⟩
    · exact un.keep b o e z (fun y => nomatch y) (by simp)
    · have e1 := (hok b _ z).1
      have e2 := (hok' b _ (un.frzs b ob _ z)).1
      rw [e] at e1
      cases e1
      exact e2
theorem intsV : ∀ {vs : List Value} {ns : List Int}, IntsAre vs ns → Vals (ns.map V.int) vs
  | _, _, .nil => .nil
  | _, _, .cons n t h => .cons ⟨t, rfl⟩ (intsV h)
theorem lawG (KX : K.In s₁.heap) (hns : s₁.heap.Ns mainGlobals mg) (hb : s₁.heap.Ns builtinsNs mb) (hbb : ∀ x : Str, x ≠ "__name__" → mb x = bootBuiltins x) (hlim : s₁.heap.NoLimit) (hg : s₁.gens = #[])
    (ha : s₁.heap.get? a = some { cls := .type "list", data := .seq vs.toArray }) (hi : IntsAre vs ns) (hl : ns.length ≤ sizeLine) (hr : Room k callerA)
    (F : ∀ base : Heap, K.In base → base.Ns mainGlobals mg → FnG P w K mg base CX0 k fa fd [x] sp) (hbind : ∀ (s : Shared) (u : Value), BindsTo s fd ⟨[u], []⟩ [(x, u)])
    (hsp : ∀ H : Hp, Only H → SqL K H a (ns.map V.int) → sp [.ref a] H (fun v _ => v = .bl true) fun _ _ _ => False) :
    codeAny (model P w) callerA (.call (.ref fa) ⟨[.ref a], []⟩) (LawEnd s₁) s₁ := by
  have rv := intsV hi
  have ln : vs.toArray.size ≤ sizeLine := by rw [List.size_toArray, hi.length]; exact hl
  have go : ∀ H : Hp, Lone K a H → Only H → HOk P w H s₁.heap → SqL K H a (ns.map V.int) → codeAny (model P w) callerA (.call (.ref fa) ⟨[.ref a], []⟩) (LawEnd s₁) s₁ := fun H L O hok hS =>
    lawG_lone L KX hns hb hbb hlim hg ha hr F (hbind _ _) O hok (hsp H O hS)
  by_cases hk : K.lookup a = none
  · let T : HO := .frz { cls := .type "list", data := .seq vs.toArray } (.lst (ns.map V.int))
    have at_ : (fun b => if b = a then some T else none : Hp) a = some T := if_pos rfl
    have off : ∀ b, b ≠ a → (fun b => if b = a then some T else none : Hp) b = none := fun b n => if_neg n
    refine go (fun b => if b = a then some T else none) ⟨fun b z => Classical.byContradiction fun n => z (off b n), fun _ => hk⟩ (fun b => ?_) (fun b u z => ?_) (.inl (.inr ⟨_, at_⟩))
    · by_cases e : b = a
      · subst e; exact .inr ⟨_, _, at_⟩
      · exact .inl (off b e)
    · by_cases e : b = a
      · subst e
        have := at_.symm.trans z
        cases this
        exact ⟨ha, by rw [List.length_map]; exact hl, vs, _, rv, ha⟩
      · have := (off b e).symm.trans z
        cases this
  · cases hk2 : K.lookup a with
    | none => exact absurd hk2 hk
    | some o =>
      have e := KX a o hk2
      rw [ha] at e
      cases e
      have nn : ∀ b : Addr, (fun _ => none : Hp) b = none := fun _ => rfl
      exact go (fun _ => none) ⟨fun b z => absurd (nn b) z, fun z => absurd (nn a) z⟩ (fun b => .inl (nn b)) (fun b u z => absurd ((nn b).symm.trans z) nofun) (.inr ⟨_, vs.toArray, _, hk2, rfl, rfl, rfl, ln, rv⟩)
end
/-- the goal that the head leaves, from the law's promise -/
theorem walk_ofG {l : PySem.W.OpenLaw} {n k : Nat} {q : Program} {loose : List Str} {XP : (Str → Option Value) → Heap → Prop} {YP : World → Heap → Prop} {d : DefRec} {K : Params → PySem.W.Frag} {sp : World → Sp} {x : Str}
    (hn : l.most = some n) (hn2 : n ≤ sizeLine) (hdf : d.params.defaults = []) (hr : Room k callerA) (hY : ∀ (w : World) (h : Heap), YP w h → (K w.params).In h)
    (F : ∀ (w : World) (mg : Str → Option Value) (fa : Addr) (h : Heap), (K w.params).In h → h.Ns mainGlobals mg → mg d.name = some (.ref fa) →
      ∃ fd : FuncData, (∀ (s : Shared) (u : Value), BindsTo s fd ⟨[u], []⟩ [(x, u)]) ∧ ∀ base : Heap, (K w.params).In base → base.Ns mainGlobals mg → FnG l.prog w (K w.params) mg base CX0 k fa fd [x] (sp w))
    (hsp : ∀ (w : World) (H : Hp) (a : Addr) (ns : List Int), ns.length ≤ n → Only H → SqL (K w.params) H a (ns.map V.int) → sp w [.ref a] H (fun v _ => v = .bl true) fun _ _ _ => False) :
    PySem.W.WalkO q loose XP YP l.row.toRowW d [] (fun f vs => PySem.call f vs) := by
  refine Att.attach_call hn hdf fun w s₀ s₁ mg mb fa o pm cd doc a vs ns T Y ho hd hcd hmg hobj hints hlen hgen => ?_
  obtain ⟨fd, bd, pr⟩ := F w mg fa _ (hY w _ Y) T.T.g hmg
  exact lawG (hY w _ Y) T.T.g T.T.b T.T.builtins T.T.nolimit hgen hobj hints (Nat.le_trans hlen hn2) hr pr bd fun H O S => hsp w H a ns hlen O S
end G

set_option maxHeartbeats 4000000
namespace G
open PySem L2
abbrev Qe (Γ : Gam) := Env Γ → (Sl Γ → Env Γ → Prop) → (Er → Env Γ → Prop) → Prop
abbrev Qt (Γ : Gam) := Env Γ → (Bool → Env Γ → Prop) → (Er → Env Γ → Prop) → Prop
/-- the expression runs as the mirror tells; W: what is wanted of errors -/
structure SdX (Γ : Gam) (X : Cx) (xc : Nat → Addr) (W : WX) (e : Expr) (q : Qe Γ) : Prop where
  run : Gd Γ X → ∀ (σ : St) (env : Env Γ) (w : Wd) (K : Sl Γ → Env Γ → Prop) (KX : Er → Env Γ → Prop) (Q : VK), q env K KX → ER Γ w σ env →
    (∀ r env' v w' Fr, K r env' → ER Γ w' σ env' → TR Γ w' v r Fr → Step w w' → Fresh w Fr → Q v w'.H) → (∀ x env', KX x env' → ZPostE Γ xc σ w W x env') → wE X e σ w.H Q
structure SdXT (Γ : Gam) (X : Cx) (xc : Nat → Addr) (W : WX) (e : Expr) (q : Qt Γ) : Prop where
  run : Gd Γ X → ∀ (σ : St) (env : Env Γ) (w : Wd) (K : Bool → Env Γ → Prop) (KX : Er → Env Γ → Prop) (Q : Bool → Hp → Prop), q env K KX → ER Γ w σ env →
    (∀ b env' w', K b env' → ER Γ w' σ env' → Step w w' → Q b w'.H) → (∀ x env', KX x env' → ZPostE Γ xc σ w W x env') → wT X e σ w.H Q
structure SdXW (Γ : Gam) (X : Cx) (xc : Nat → Addr) (W : WX) (e : Expr) (q : Qt Γ) : Prop where
  run : Gd Γ X → ∀ (σ : St) (env : Env Γ) (w : Wd) (K : Bool → Env Γ → Prop) (KX : Er → Env Γ → Prop) (Q : Bool → Hp → Prop), q env K KX → ER Γ w σ env →
    (∀ b env' w', K b env' → ER Γ w' σ env' → Step w w' → Q b w'.H) → (∀ x env', KX x env' → ZPostE Γ xc σ w W x env') → wW X e σ w.H Q
def xE {Γ : Gam} (f : Ev Γ) : Qe Γ := fun env K _ => ∃ r env', f env = some (r, env') ∧ K r env'
def xTe {Γ : Gam} (f : Et Γ) : Qt Γ := fun env K _ => ∃ b env', f env = some (b, env') ∧ K b env'
section
variable {Γ : Gam} {X : Cx} {xc : Nat → Addr} {W : WX} {e : Expr}
theorem sdx_of {f : Ev Γ} (h : SdE Γ X e f) : SdX Γ X xc W e (xE f) := by
  refine ⟨fun hK σ env w K KX Q he E k kx => ?_⟩
  obtain ⟨r, env', g, hk⟩ := he
  exact h hK σ env r env' w Q g E fun v w' Fr E' T' p' f' => k r env' v w' Fr hk E' T' p' f'
theorem sdxt_of {f : Et Γ} (h : SdT Γ X e f) : SdXT Γ X xc W e (xTe f) := by
  refine ⟨fun hK σ env w K KX Q he E k kx => ?_⟩
  obtain ⟨b, env', g, hk⟩ := he
  exact h hK σ env b env' w Q g E fun w' E' p' => k b env' w' hk E' p'
theorem SdXW.t {q : Qt Γ} (h : SdXW Γ X xc W e q) : SdXT Γ X xc W e q := ⟨fun hK σ env w K KX Q he E k kx => wT.of (PW.pt pw_wW) (h.run hK σ env w K KX Q he E k kx)⟩
end

def Cell.sl {Γ : Gam} : Cell → Sl Γ
  | .lst ds => .lst ds
  | .dic kvs => .dic kvs
  | .ins c fs => .ins c (fs.map fun q => (q.1, Fd.dat q.2))
def vw {Γ : Gam} (g : Nat) (env : Env Γ) (s : Sl Γ) : Sl Γ :=
  match s, env[g]? with
  | .dat (.raw a), some (.obj (.gra _ gr)) => match gr a with
    | some c => c.sl
    | none => s
  | _, _ => s
section
variable {Γ : Gam} {w : Wd} {σ : St} {env : Env Γ}
theorem fds_dat {M : Addr → Prop} {H : Hp} : ∀ {vs : List (Str × V)} {fs : List (Str × D)}, vs.map (·.1) = fs.map (·.1) → Dats Γ M H (vs.map (·.2)) (fs.map (·.2)) → FdRs Γ M H vs (fs.map fun q => (q.1, Fd.dat q.2)) (fun _ => False)
  | [], [], _, _ => .nil fun _ z => z
  | [], _ :: _, e, _ => by cases e
  | _ :: _, [], e, _ => by cases e
  | (n, v) :: vs, (m, d) :: fs, e, r => by
    rw [List.map_cons, List.map_cons] at e r
    injection e with e1 e2
    have e1' : n = m := e1
    subst e1'
    cases r with
    | cons h r => exact .cons (G1 := fun _ => False) (G2 := fun _ => False) ⟨h, fun _ z => z⟩ (fds_dat e2 r) (fun _ z => z.elim) fun _ => ⟨fun z => .inl z, fun z => z.elim id id⟩
theorem CellR.sr {M : Addr → Prop} {H : Hp} {a : Addr} {c : Cell} (h : CellR Γ M H a c) : SR Γ M H (.ref a) c.sl (fun b => b = a) := by
  cases c with
  | lst ds => obtain ⟨vs, e, r⟩ := h; exact ⟨a, vs, rfl, e, r, fun _ => Iff.rfl⟩
  | dic kvs => obtain ⟨vs, e, r⟩ := h; exact ⟨a, vs, rfl, e, r, fun _ => Iff.rfl⟩
  | ins c fs =>
    obtain ⟨C, ns, dx, vs, e1, e2, e3, r⟩ := h
    exact ⟨a, C, ns, dx, vs, fun _ => False, rfl, e1, e2, fds_dat e3 r, fun z => z, fun b => ⟨fun z => .inl z, fun z => z.elim id False.elim⟩⟩
/-- the graph in slot g -/
theorem ER.gra (E : ER Γ w σ env) {g : Nat} {root : Addr} {gr : Gr} (h : env[g]? = some (.obj (.gra root gr))) : σ[g]? = some (some (.ref root)) ∧ (∀ b c, gr b = some c → CellR Γ w.M w.H b c) ∧ ∀ a, w.F g a ↔ gr a ≠ none := by
  obtain ⟨v, ev, e, h1, h2⟩ := E.at (i := g) (s := .obj (.gra root gr)) (by rw [h]; rfl)
  cases e
  exact ⟨ev, h1, h2⟩
theorem vw_sr (E : ER Γ w σ env) (g : Nat) {s : Sl Γ} {v : V} {G0 : Addr → Prop} (h : SR Γ w.M w.H v s G0) : ∃ G1, SR Γ w.M w.H v (vw g env s) G1 := by
  unfold vw
  split
  · rename_i a root gr e
    split
    · rename_i c ec
      obtain ⟨_, h1, _⟩ := E.gra e
      have hv := h.1
      cases hv
      exact ⟨_, (h1 a c ec).sr⟩
    · exact ⟨G0, h⟩
  · exact ⟨G0, h⟩
theorem vws_sr (E : ER Γ w σ env) (g : Nat) : ∀ {vs : List V} {ss : List (Sl Γ)}, SRs Γ w.M w.H vs ss → SRs Γ w.M w.H vs (ss.map (vw g env))
  | _, _, .nil => .nil
  | _, _, .cons h r => by
    obtain ⟨G1, h1⟩ := vw_sr E g h
    exact .cons h1 (vws_sr E g r)
end

inductive XA (Γ : Gam) where
  | brw (i : Nat) | ex (q : Qe Γ)
def SdXA (Γ : Gam) (X : Cx) (xc : Nat → Addr) (W : WX) (e : Expr) : XA Γ → Prop
  | .brw i => ∀ (σ : St) (H : Hp) (Q : VK) (v : V), σ[i]? = some (some v) → Q v H → wE X e σ H Q
  | .ex q => SdX Γ X xc W e q
def evX {Γ : Gam} : List (XA Γ) → Env Γ → (List (Ag Γ) → Env Γ → Prop) → (Er → Env Γ → Prop) → Prop
  | [], env, K, _ => K [] env
  | .brw i :: as, env, K, KX => (∃ s, got env[i]? = some s) ∧ evX as env (fun xs e => K (.brw i :: xs) e) KX
  | .ex q :: as, env, K, KX => q env (fun s e1 => evX as e1 (fun xs e2 => K (.val s :: xs) e2) KX) KX
inductive SdXL (Γ : Gam) (X : Cx) (xc : Nat → Addr) (W : WX) : List Expr → List (XA Γ) → Prop
  | nil : SdXL Γ X xc W [] []
  | cons {e : Expr} {es : List Expr} {a : XA Γ} {as : List (XA Γ)} : SdXA Γ X xc W e a → NS X e → SdXL Γ X xc W es as → SdXL Γ X xc W (e :: es) (a :: as)
/-- an operation on what the operands look like -/
def xN {Γ : Gam} (g : Nat) (p : List (Sl Γ) → Option (Sl Γ)) (as : List (XA Γ)) : Qe Γ := fun env K KX => evX as env (fun xs e => ∃ ss s, peeks xs e = some ss ∧ p (ss.map (vw g e)) = some s ∧ K s e) KX
section
variable {Γ : Gam} {X : Cx} {xc : Nat → Addr} {W : WX} {σ : St} {a b e : Expr} {es : List Expr} {xa xb : XA Γ} {as : List (XA Γ)} {pos : Pos}
theorem sdxa_var (i : Nat) {x : Str} (hN : X.N[i]? = some x := by rfl) (hv : Vis X.env.scope x := by first | exact Or.inl rfl | exact Or.inr (Or.inl rfl) | exact Or.inr (Or.inr rfl)) (hd : (x == ("__debug__" : Str)) = false := by decide) (hcd : (x == ("__classdict__" : Str)) = false := by decide) :
    SdXA Γ X xc W (.Name x pos) (.brw i) := fun σ H Q v e q => wE.of (pe_var hN hv hd hcd) ⟨v, e, q⟩
theorem sdxa_ex {q : Qe Γ} (h : SdX Γ X xc W e q) : SdXA Γ X xc W e (.ex q) := h
theorem SdXL.ns : ∀ {es : List Expr} {as : List (XA Γ)}, SdXL Γ X xc W es as → ∀ e ∈ es, NS X e
  | _, _, .nil, _, h => nomatch h
  | _, _, .cons _ n r, e, h => by
    rcases List.mem_cons.mp h with z | z
    · subst z; exact n
    · exact SdXL.ns r e z
theorem xl_run (hK : Gd Γ X) : ∀ {es : List Expr} {as : List (XA Γ)} {env : Env Γ} {w : Wd} {K : List (Ag Γ) → Env Γ → Prop} {KX : Er → Env Γ → Prop} {Q : List V → Hp → Prop}, SdXL Γ X xc W es as → evX as env K KX → ER Γ w σ env →
    (∀ xs env' vs w' Frs, K xs env' → ER Γ w' σ env' → ARs Γ w' σ vs xs Frs → Step w w' → (∀ G ∈ Frs, Fresh w G) → Q vs w'.H) → (∀ x env', KX x env' → ZPostE Γ xc σ w W x env') → wL X es σ w.H Q
  | _, _, env, w, _, _, _, .nil, he, E, k, _ => k [] env [] w [] he E .nil (Step.refl w) (fun _ h => nomatch h)
  | _, _, env, w, K, KX, Q, .cons (e := e) (es := es) (a := .brw i) (as := as) h1 n h2, he, E, k, kx => by
    obtain ⟨⟨s, g⟩, he⟩ := he
    obtain ⟨v, e1, r⟩ := E.at g
    show wE X e σ w.H fun v H1 => wL X es σ H1 fun vs H2 => Q (v :: vs) H2
    refine h1 σ w.H _ v e1 ?_
    refine xl_run hK h2 he E (fun xs env' vs w2 Frs hk E2 A2 p2 f2 => ?_) kx
    exact k (.brw i :: xs) env' (v :: vs) w2 ((fun _ => False) :: Frs) hk E2 (.cons ⟨e1, fun _ z => z⟩ (fun _ _ _ z => z.elim) A2) p2 fun G hG => by
      rcases List.mem_cons.mp hG with z | z
      · subst z; exact fun _ q => q.elim
      · exact f2 G z
  | _, _, env, w, K, KX, Q, .cons (e := e) (es := es) (a := .ex q) (as := as) h1 n h2, he, E, k, kx => by
    show wE X e σ w.H fun v H1 => wL X es σ H1 fun vs H2 => Q (v :: vs) H2
    refine SdX.run h1 hK σ env w _ KX _ he E (fun s e1 v w1 Fr hk E1 T1 p1 f1 => ?_) kx
    have A1 : AR Γ w1 σ v (.val s) Fr := T1
    refine xl_run hK h2 hk E1 (fun xs env' vs w2 Frs hk2 E2 A2 p2 f2 => ?_) fun x env' hx => (kx x env' hx).step E.dom p1
    refine k (.val s :: xs) env' (v :: vs) w2 (Fr :: Frs) hk2 E2 (.cons (A1.step E1 p2) (fun G hG x hx gx => ?_) A2) (p1.trans p2 E.dom) (fun G hG => ?_)
    · obtain ⟨q1, q2⟩ := A1.here E1 x hx
      rcases f2 G hG x gx with ⟨i, z⟩ | z
      · exact q2 i z
      · exact q1 z
    · rcases List.mem_cons.mp hG with z | z
      · subst z; exact f1
      · exact (f2 G z).back p1
theorem xn_run {g : Nat} {r : List V → Hp → VK → Prop} {p : List (Sl Γ) → Option (Sl Γ)} {env : Env Γ} {w : Wd} {K : Sl Γ → Env Γ → Prop} {KX : Er → Env Γ → Prop} {Q : VK} (hp : PrimN Γ r p) (ha : SdXL Γ X xc W es as) (hK : Gd Γ X) (he : xN g p as env K KX) (E : ER Γ w σ env)
    (k : ∀ s env' v w' Fr, K s env' → ER Γ w' σ env' → TR Γ w' v s Fr → Step w w' → Fresh w Fr → Q v w'.H) (kx : ∀ x env', KX x env' → ZPostE Γ xc σ w W x env') : wL X es σ w.H fun vs H1 => r vs H1 Q := by
  refine xl_run hK ha he E (fun xs env' vs w1 Frs hk E1 A1 p1 f1 => ?_) kx
  obtain ⟨ss, s, g1, g2, hk⟩ := hk
  exact hp w1.M w1.H vs _ s Q E1.dom g2 (vws_sr E1 g (A1.peeks E1 g1)) (res_of E1 fun v2 w2 Fr2 E2 T2 p2 f2 => k s env' v2 w2 Fr2 hk E2 T2 (p1.trans p2 E.dom) (f2.back p1))
theorem wL2 {σ : St} {H : Hp} {r : R2} {Q : VK} (h : wL X [a, b] σ H fun vs H1 => ∃ x y, vs = [x, y] ∧ r x y H1 Q) : wE X a σ H fun x H1 => wE X b σ H1 fun y H2 => r x y H2 Q := by
  have h' : wE X a σ H fun x H1 => wE X b σ H1 fun y H2 => ∃ x' y', [x, y] = [x', y'] ∧ r x' y' H2 Q := h
  refine h'.mono fun x H1 h1 => h1.mono fun y H2 h2 => ?_
  obtain ⟨x', y', e, z⟩ := h2
  cases e
  exact z
theorem wL1 {σ : St} {H : Hp} {r : V → Hp → VK → Prop} {Q : VK} (h : wL X [a] σ H fun vs H1 => ∃ x, vs = [x] ∧ r x H1 Q) : wE X a σ H fun x H1 => r x H1 Q := by
  have h' : wE X a σ H fun x H1 => ∃ x', [x] = [x'] ∧ r x' H1 Q := h
  refine h'.mono fun x H1 h1 => ?_
  obtain ⟨x', e, z⟩ := h1
  cases e
  exact z
/-- calls of built-ins -/
theorem sdx_callB (g : Nat) {x : Str} {id : String} {p : Pos} {pr : List (Sl Γ) → Option (Sl Γ)} (h : Blt Γ X (.builtin id) pr) (hg : Gl X x) (hm : X.mg x = none) (hv : bootBuiltins x = some (.builtin id)) (ha : SdXL Γ X xc W (e :: es) as) (hn : x ≠ "__name__" := by decide) (hdb : (x == ("__debug__" : Str)) = false := by decide)
    (hpl : (backTo pos (starEach es X.env)).any (·.1) = false := by rfl) : SdX Γ X xc W (.Call (.Name x p) (e :: es) [] pos) (xN g pr as) := by
  obtain ⟨r, h1, h2⟩ := h
  exact ⟨fun hK σ env w K KX Q he E k kx => wE.of (pe_callB (h1 hK) hg hm hv (pa_wL ha.ns) hn hdb (ha.ns e List.mem_cons_self es) hpl) (xn_run h2 ha hK he E k kx)⟩
theorem two (ha : SdXA Γ X xc W a xa) (na : NS X a) (hb : SdXA Γ X xc W b xb) (nb : NS X b) : SdXL Γ X xc W [a, b] [xa, xb] := .cons ha na (.cons hb nb .nil)
end
end G

set_option maxHeartbeats 4000000
namespace G
open PySem L2
def xT {Γ : Gam} (q : Qe Γ) : Qt Γ := fun env K KX => q env (fun s e => ∃ b, s = .dat (.bl b) ∧ K b e) KX
def xTru {Γ : Gam} (g : Nat) (a : XA Γ) : Qt Γ := fun env K KX => evX [a] env (fun xs e => ∃ s b, peeks xs e = some [s] ∧ truth (vw g e s) = some b ∧ K b e) KX
def xNotT {Γ : Gam} (q : Qt Γ) : Qt Γ := fun env K KX => q env (fun b e => K (!b) e) KX
def xOrT {Γ : Gam} (p q : Qt Γ) : Qt Γ := fun env K KX => p env (fun b e => if b = true then K true e else q e K KX) KX
section
variable {Γ : Gam} {X : Cx} {xc : Nat → Addr} {W : WX} {σ : St} {a b c e : Expr} {rest : List Expr} {xa xb : XA Γ} {as : List (XA Γ)} {p q : Qe Γ} {t u : Qt Γ} {pos : Pos}
theorem kxs {w w1 : Wd} {env1 : Env Γ} {KX : Er → Env Γ → Prop} (E : ER Γ w σ env1) (p1 : Step w w1) (kx : ∀ x env', KX x env' → ZPostE Γ xc σ w W x env') : ∀ x env', KX x env' → ZPostE Γ xc σ w1 W x env' := fun x env' h => (kx x env' h).step E.dom p1
theorem sdxt_cmp (g : Nat) {op : CmpOp} {p : Sl Γ → Sl Γ → Option (Sl Γ)} (h : Cmp Γ X op p) (ha : SdXL Γ X xc W [a, b] as) (hm : behindInMarks op b = false := by first | exact nobehind _ (by decide) (by decide) | rfl) : SdXT Γ X xc W (.Compare a [op] [b] pos) (xT (xN g (pN2 p) as)) := by
  obtain ⟨r, h1, h2⟩ := h
  refine ⟨fun hK σ env w K KX Q he E k kx => wT.of (pt_cmpR (h1 hK) pe_wE pe_wE hm) (wL2 (Q := fun x H1 => ∃ c, x = V.bl c ∧ Q c H1) (xn_run (pN2_ok h2) ha hK he E (fun s env' v w' Fr hk E' T' p' f' => ?_) kx))⟩
  obtain ⟨b1, rfl, hk⟩ := hk
  exact ⟨b1, T'.bl, k b1 env' w' hk E' p'⟩
theorem sdxt_tru (g : Nat) (ha : SdXA Γ X xc W a xa) (na : NS X a) (hs : ∀ whole, isTrue a X.env whole = (do let v ← whole; standAt a.pos; holding [v] (truthy v)) := by intro _; rfl) : SdXT Γ X xc W a (xTru g xa) := by
  refine ⟨fun hK σ env w K KX Q he E k kx => wT.of (pt_truth pe_wE hs) ?_⟩
  have h := xl_run (Q := fun vs H1 => ∃ x, vs = [x] ∧ ∃ b, TruV X.K x H1 b ∧ Q b H1) hK (.cons ha na .nil) he E (fun xs env' vs w1 Frs hk E1 A1 p1 f1 => ?_) kx
  · exact wL1 (r := fun x H1 Q' => ∃ b, TruV X.K x H1 b ∧ Q b H1) (Q := fun _ _ => True) h
  · obtain ⟨s, b, g1, g2, hk⟩ := hk
    have rs := A1.peeks E1 g1
    cases rs with
    | cons r rs =>
      cases rs
      obtain ⟨G1, r1⟩ := vw_sr E1 g r
      exact ⟨_, rfl, b, by rw [← hK.k]; exact truth_ok r1 g2, k b env' w1 hk E1 p1⟩
theorem sdxt_not (h : SdXT Γ X xc W a t) : SdXT Γ X xc W (.UnaryOp .Not a pos) (xNotT t) :=
  ⟨fun hK σ env w K KX Q he E k kx => wT.of (pt_not pt_wT) (h.run hK σ env w _ KX _ he E (fun b env' w' hk E' p' => k (!b) env' w' hk E' p') kx)⟩
theorem sdxw_or1 (h : SdXT Γ X xc W a t) : SdXW Γ X xc W (.BoolOp .Or [a] pos) t := ⟨fun hK σ env w K KX Q he E k kx => wW.of (pw_or1 pt_wT) (h.run hK σ env w K KX Q he E k kx)⟩
theorem sdxw_or (h : SdXT Γ X xc W a t) (h' : SdXW Γ X xc W (.BoolOp .Or (b :: rest) pos) u) : SdXW Γ X xc W (.BoolOp .Or (a :: b :: rest) pos) (xOrT t u) := by
  refine ⟨fun hK σ env w K KX Q he E k kx => wW.of (pw_or pt_wT pw_wW) (h.run hK σ env w _ KX _ he E (fun b1 env1 w1 hk E1 p1 => ?_) kx)⟩
  cases b1 with
  | true =>
    rw [if_pos rfl] at hk
    rw [if_pos rfl]
    exact k true env1 w1 hk E1 p1
  | false =>
    rw [if_neg Bool.false_ne_true] at hk
    rw [if_neg Bool.false_ne_true]
    exact h'.run hK σ env1 w1 K KX Q hk E1 (fun b2 env2 w2 hk2 E2 p2 => k b2 env2 w2 hk2 E2 (p1.trans p2 E.dom)) (kxs E p1 kx)
end
end G

set_option maxHeartbeats 4000000
namespace G
open PySem L2
abbrev Qs (Γ : Gam) := Env Γ → (Fl Γ → Env Γ → Prop) → (Er → Env Γ → Prop) → Prop
structure SdXS (Γ : Gam) (X : Cx) (xc : Nat → Addr) (W : WX) (A : List Nat) (st : Stmt) (q : Qs Γ) : Prop where
  run : Gd Γ X → ∀ (σ : St) (env : Env Γ) (w : Wd) (K : Fl Γ → Env Γ → Prop) (KX : Er → Env Γ → Prop) (D : Ends), q env K KX → ER Γ w σ env → (∀ fl env', K fl env' → Post Γ A σ w D fl env') → (∀ x env', KX x env' → ZPost Γ xc A σ w W x env') → wS X st D σ w.H
structure SdXSs (Γ : Gam) (X : Cx) (xc : Nat → Addr) (W : WX) (A : List Nat) (st : List Stmt) (q : Qs Γ) : Prop where
  run : Gd Γ X → ∀ (σ : St) (env : Env Γ) (w : Wd) (K : Fl Γ → Env Γ → Prop) (KX : Er → Env Γ → Prop) (D : Ends), q env K KX → ER Γ w σ env → (∀ fl env', K fl env' → Post Γ A σ w D fl env') → (∀ x env', KX x env' → ZPost Γ xc A σ w W x env') → wSs X st D σ w.H
def xS {Γ : Gam} (f : Es Γ) : Qs Γ := fun env K _ => ∃ fl env', f env = some (fl, env') ∧ K fl env'
def xNx {Γ : Gam} : Qs Γ := fun env K _ => K .nx env
def xSeq {Γ : Gam} (p q : Qs Γ) : Qs Γ := fun env K KX => p env (fun fl e => match fl with
  | .nx => q e K KX
  | .bk => K .bk e
  | .ct => K .ct e
  | .rt s => K (.rt s) e) KX
def xIfS {Γ : Gam} (c : Qt Γ) (p q : Qs Γ) : Qs Γ := fun env K KX => c env (fun b e => if b = true then p e K KX else q e K KX) KX
abbrev Nxt (Γ : Gam) := Nat → Env Γ → Option (Option D)
structure ItQ (Γ : Gam) (J : It) (nxt : Nxt Γ) (n : Nat) (M : Addr → Prop) (H : Hp) : Prop where
  go : ∀ (w2 : Wd) (σ2 : St) (env2 : Env Γ), ER Γ w2 σ2 env2 → Go M H w2.M w2.H → ∀ i d, nxt i env2 = some (some d) → J.go i w2.H ∧ ∀ x H', J.yld i w2.H x H' → (∀ a u, w2.H a = some u → H' a = some u) ∧ Dat Γ w2.M H' x d
  stop : ∀ (w2 : Wd) (σ2 : St) (env2 : Env Γ), ER Γ w2 σ2 env2 → Go M H w2.M w2.H → nxt n env2 = some none → J.stop n w2.H
theorem ItQ.step {Γ : Gam} {J : It} {nxt : Nxt Γ} {n : Nat} {M M' : Addr → Prop} {H H' : Hp} (h : ItQ Γ J nxt n M H) (g : Go M H M' H') : ItQ Γ J nxt n M' H' := ⟨fun w2 σ2 env2 E g2 => h.go w2 σ2 env2 E (g.trans g2), fun w2 σ2 env2 E g2 => h.stop w2 σ2 env2 E (g.trans g2)⟩
abbrev Qi (Γ : Gam) := Env Γ → (Nxt Γ → Nat → Env Γ → Prop) → (Er → Env Γ → Prop) → Prop
structure SdXI (Γ : Gam) (X : Cx) (xc : Nat → Addr) (W : WX) (tg iter : Expr) (q : Qi Γ) : Prop where
  run : Gd Γ X → ∀ (σ : St) (env : Env Γ) (w : Wd) (K : Nxt Γ → Nat → Env Γ → Prop) (KX : Er → Env Γ → Prop) (R : It → Hp → Prop), q env K KX → ER Γ w σ env →
    (∀ nxt n env' J w', K nxt n env' → ER Γ w' σ env' → Step w w' → ItQ Γ J nxt n w'.M w'.H → R J w'.H) → (∀ x env', KX x env' → ZPostE Γ xc σ w W x env') → wI X tg iter σ w.H R
def nxD {Γ : Gam} (ds : List D) : Nxt Γ := fun i _ => some ds[i]?
/-- the list at a in the graph of slot g -/
def cellL {Γ : Gam} (g : Nat) (env : Env Γ) (a : Addr) : Option (List D) :=
  match env[g]? with
  | some (.obj (.gra _ gr)) => match gr a with
    | some (.lst ds) => some ds
    | _ => none
  | _ => none
def nxC {Γ : Gam} (g : Nat) (a : Addr) : Nxt Γ := fun i env => (cellL g env a).map fun ds => ds[i]?
def xI {Γ : Gam} (f : Ei Γ) : Qi Γ := fun env K _ => ∃ ds env1, f env = some (ds, env1) ∧ K (nxD ds) ds.length env1
def forX {Γ : Gam} (nxt : Nxt Γ) (n : Nat) (t : Eg Γ) (g : Qs Γ) (K : Fl Γ → Env Γ → Prop) (KX : Er → Env Γ → Prop) : Nat → Env Γ → Prop
  | 0, env => nxt n env = some none ∧ K .nx env
  | m + 1, env => ∃ d, nxt (n - (m + 1)) env = some (some d) ∧ ∃ e1, t d env = some e1 ∧ g e1 (fun fl e2 => match fl with
    | .nx => forX nxt n t g K KX m e2
    | .ct => forX nxt n t g K KX m e2
    | .bk => K .nx e2
    | .rt s => K (.rt s) e2) KX
def xFor {Γ : Gam} (qi : Qi Γ) (t : Eg Γ) (g : Qs Γ) : Qs Γ := fun env K KX => qi env (fun nxt n e1 => forX nxt n t g K KX n e1) KX
section
variable {Γ : Gam} {X : Cx} {xc : Nat → Addr} {W : WX} {A : List Nat} {c e : Expr} {st : Stmt} {rest : List Stmt} {p q : Qe Γ} {u v : Qs Γ} {t : Qt Γ} {pos : Pos}
theorem kzs {σ σ1 : St} {w w1 : Wd} {KX : Er → Env Γ → Prop} (dom : ∀ a, w.M a → w.H a ≠ none) (p1 : Step w w1) (a1 : Agree A σ σ1) (kx : ∀ x env', KX x env' → ZPost Γ xc A σ w W x env') : ∀ x env', KX x env' → ZPost Γ xc A σ1 w1 W x env' := fun x env' h => (kx x env' h).step dom p1 a1
theorem kzE {σ : St} {w : Wd} {KX : Er → Env Γ → Prop} (kx : ∀ x env', KX x env' → ZPost Γ xc A σ w W x env') : ∀ x env', KX x env' → ZPostE Γ xc σ w W x env' := fun x env' h => (kx x env' h).toE
theorem xs_of {f : Es Γ} (h : SdS Γ X A st f) : SdXS Γ X xc W A st (xS f) := ⟨fun hK σ env w K KX D he E k kx => by
  obtain ⟨fl, env', g, hk⟩ := he
  exact h hK σ env fl env' w D g E (k fl env' hk)⟩
theorem xss_cons (h1 : SdXS Γ X xc W A st u) (h2 : SdXSs Γ X xc W A rest v) : SdXSs Γ X xc W A (st :: rest) (xSeq u v) := by
  refine ⟨fun hK σ env w K KX D he E k kx => wSs.of (pss_cons ps_wS pss_wSs) ?_⟩
  show wS X st { D with nx := wSs X rest D } σ w.H
  refine h1.run hK σ env w _ KX _ he E (fun fl env' hk => ?_) kx
  cases fl with
  | nx => exact fun σ1 w1 E1 p1 a1 => h2.run hK σ1 env' w1 K KX D hk E1 (fun fl env' h => (k fl env' h).step E.dom p1 a1) (kzs E.dom p1 a1 kx)
  | bk => exact k _ _ hk
  | ct => exact k _ _ hk
  | rt s => exact k _ _ hk
theorem xss_one (h1 : SdXS Γ X xc W A st u) : SdXSs Γ X xc W A [st] u := ⟨fun hK σ env w K KX D he E k kx => wSs.of (pss_one ps_wS) (h1.run hK σ env w K KX D he E k kx)⟩
theorem xss_nil : SdXSs Γ X xc W A [] xNx := ⟨fun hK σ env w K KX D he E k kx => wSs.of pss_nil (k .nx env he σ w E (Step.refl w) Agree.refl)⟩
theorem xs_if {a b : List Stmt} (hc : SdXT Γ X xc W c t) (ha : SdXSs Γ X xc W A a u) (hb : SdXSs Γ X xc W A b v) : SdXS Γ X xc W A (.If c a b pos) (xIfS t u v) := by
  refine ⟨fun hK σ env w K KX D he E k kx => wS.of (ps_if pt_wT pss_wSs pss_wSs) (hc.run hK σ env w _ KX _ he E (fun b1 env1 w1 hk E1 p1 => ?_) (kzE kx))⟩
  cases b1 with
  | true =>
    rw [if_pos rfl] at hk
    rw [if_pos rfl]
    exact ha.run hK σ env1 w1 K KX D hk E1 (fun fl env' h => (k fl env' h).step E.dom p1 Agree.refl) (kzs E.dom p1 Agree.refl kx)
  | false =>
    rw [if_neg Bool.false_ne_true] at hk
    rw [if_neg Bool.false_ne_true]
    exact hb.run hK σ env1 w1 K KX D hk E1 (fun fl env' h => (k fl env' h).step E.dom p1 Agree.refl) (kzs E.dom p1 Agree.refl kx)
theorem ItQ.data {J : It} {ds : List D} {M : Addr → Prop} {H : Hp} (h : ItOk Γ J ds M H) : ItQ Γ J (nxD ds) ds.length M H :=
  ⟨fun w2 σ2 env2 E g i d e => h.go w2.M w2.H g E.dom i d (Option.some.inj e), fun w2 σ2 env2 E g _ => h.stop w2.M w2.H g⟩
theorem sdxi_of {tg iter : Expr} {f : Ei Γ} (h : SdI Γ X tg iter f) : SdXI Γ X xc W tg iter (xI f) := ⟨fun hK σ env w K KX R he E k kx => by
  obtain ⟨ds, env1, g, hk⟩ := he
  exact h hK σ env ds env1 w R g E fun J w1 E1 p1 ok => k _ _ env1 J w1 hk E1 p1 (.data ok)⟩
theorem cellL_some {g : Nat} {env : Env Γ} {a : Addr} {ds : List D} (h : cellL g env a = some ds) : ∃ root gr, env[g]? = some (.obj (.gra root gr)) ∧ gr a = some (.lst ds) := by
  unfold cellL at h
  split at h
  · rename_i root gr e
    split at h
    · rename_i ds' e2
      cases h
      exact ⟨root, gr, e, e2⟩
    · cases h
  · cases h
theorem ItQ.cell {g : Nat} {a : Addr} {n : Nat} {M : Addr → Prop} {H : Hp} : ItQ Γ (Itl Γ.K a) (nxC g a) n M H := by
  refine ⟨fun w2 σ2 env2 E _ i d e => ?_, fun w2 σ2 env2 E _ e => ?_⟩
  · unfold nxC at e
    cases q : cellL g env2 a with
    | none => rw [q] at e; cases e
    | some ds =>
      rw [q] at e
      obtain ⟨root, gr, e1, e2⟩ := cellL_some q
      obtain ⟨_, h1, _⟩ := E.gra e1
      obtain ⟨vs, hv, r⟩ := h1 a _ e2
      obtain ⟨v, ev, dv⟩ := r.get (Option.some.inj e)
      refine ⟨⟨vs, v, SqL.of hv, ev⟩, fun x H2 y => ?_⟩
      obtain ⟨rfl, y⟩ := y
      have q := y vs (SqL.of hv)
      rw [ev] at q
      cases q
      exact ⟨fun _ _ z => z, dv⟩
  · unfold nxC at e
    cases q : cellL g env2 a with
    | none => rw [q] at e; cases e
    | some ds =>
      rw [q] at e
      obtain ⟨root, gr, e1, e2⟩ := cellL_some q
      obtain ⟨_, h1, _⟩ := E.gra e1
      obtain ⟨vs, hv, r⟩ := h1 a _ e2
      refine ⟨vs, SqL.of hv, ?_⟩
      have := List.getElem?_eq_none_iff.mp (Option.some.inj e)
      rw [r.length]
      exact this
theorem xs_for {tg iter : Expr} {body : List Stmt} {qi : Qi Γ} {g : Eg Γ} (hp : PassesOwn (model X.prog X.w) X.A X.env X.xe) (hi : SdXI Γ X xc W tg iter qi) (hg : SdG Γ X A tg g) (hb : SdXSs Γ X xc W A body u) (hs : ∀ x, foldedSetIterable iter X.env x = pure x := by intro _; rfl) : SdXS Γ X xc W A (.For tg iter body [] pos) (xFor qi g u) := by
  refine ⟨fun hK σ env w K KX D he E k kx => wS.of (ps_for hp hK.calm pi_wI pg_wG pss_wSs hs) (hi.run hK σ env w _ KX _ he E (fun nxt n env1 J w1 he1 E1 p1 ok1 => ?_) (kzE kx))⟩
  refine ⟨fun i m σ' H' => m = n - i ∧ i ≤ n ∧ ∃ env' w', w'.H = H' ∧ ER Γ w' σ' env' ∧ Step w w' ∧ ItQ Γ J nxt n w'.M w'.H ∧ Agree A σ σ' ∧ forX nxt n g u K KX (n - i) env',
    ⟨n, rfl, Nat.zero_le _, env1, w1, rfl, E1, p1, ok1, Agree.refl, he1⟩, ?_⟩
  rintro i m σ2 H2 ⟨rfl, hi2, env2, w2, rfl, E2, p2, ok2, a2, he2⟩
  by_cases hlt : i < n
  · refine .inr ?_
    obtain ⟨r, er⟩ : ∃ r, n - i = r + 1 := ⟨n - i - 1, by omega⟩
    rw [er] at he2
    obtain ⟨d, hd, e1, g2, he3⟩ := he2
    have ei : n - (r + 1) = i := by omega
    rw [ei] at hd
    obtain ⟨go, yl⟩ := ok2.go w2 σ2 env2 E2 (Go.refl _ _) i d hd
    refine ⟨go, fun σ' H' => ∃ env' w', w'.H = H' ∧ ER Γ w' σ' env' ∧ Step w w' ∧ ItQ Γ J nxt n w'.M w'.H ∧ Agree A σ σ' ∧ forX nxt n g u K KX r env', ?_, ?_⟩
    · rintro σ' H' ⟨env', w', h1, h2, h3, h4, h5, h6⟩
      exact ⟨n - (i + 1), by omega, rfl, hlt, env', w', h1, h2, h3, h4, h5, by rw [show n - (i + 1) = r by omega]; exact h6⟩
    · intro x H3 y
      obtain ⟨ext, hx⟩ := yl x H3 y
      obtain ⟨E3, p3⟩ := E2.grow (Fr := fun _ => False) ext (fun _ z => z.elim)
      have p23 := p2.trans p3 E.dom
      have hx' : Dat Γ (fun a => w2.M a ∨ False) H3 x d := hx.go go_or
      refine hg hK σ2 env2 d e1 ⟨fun a => w2.M a ∨ False, w2.F, H3⟩ x _ g2 E3 hx' fun σ4 w4 E4 p4 a4 => ?_
      have p24 := p23.trans p4 E.dom
      have a24 := a2.trans a4
      have ok4 := (ok2.step (E2.go p3)).step (E3.go p4)
      refine hb.run hK σ4 e1 w4 _ KX _ he3 E4 (fun fl e2 hk => ?_) (kzs E.dom p24 a24 kx)
      cases fl with
      | nx => exact fun σ5 w5 E5 p5 a5 => ⟨e2, w5, rfl, E5, p24.trans p5 E.dom, ok4.step (E4.go p5), a24.trans a5, hk⟩
      | ct => exact fun σ5 w5 E5 p5 a5 => ⟨e2, w5, rfl, E5, p24.trans p5 E.dom, ok4.step (E4.go p5), a24.trans a5, hk⟩
      | bk => exact fun σ5 w5 E5 p5 a5 => k _ _ hk σ5 w5 E5 (p24.trans p5 E.dom) (a24.trans a5)
      | rt s => exact fun v σ5 w5 Fr E5 T5 p5 f5 a5 => k _ _ hk v σ5 w5 Fr E5 T5 (p24.trans p5 E.dom) (f5.back p24) (a24.trans a5)
  · have ei : i = n := by omega
    subst ei
    rw [Nat.sub_self] at he2
    exact .inl ⟨ok2.stop w2 σ2 env2 E2 (Go.refl _ _) he2.1, k _ _ he2.2 σ2 w2 E2 p2 a2⟩
end
end G

set_option maxHeartbeats 4000000
namespace G
open PySem L2
abbrev Fx (Γ : Gam) := List (Sl Γ) → (Sl Γ → List (Sl Γ) → Prop) → (Er → List (Sl Γ) → Prop) → Prop
def xFun {Γ : Gam} (np loc : Nat) (A : List Nat) (q : Qs Γ) : Fx Γ := fun args K KX => args.length = np ∧ ((A.filter (· < np)).all fun i => match args[i]? with | some s => nonOwn s | none => true) = true ∧
  q (args ++ List.replicate loc .none) (fun fl e => match fl with
    | .rt s => K s (backE args (e.take np) (A.filter (· < np)))
    | .nx => K (.dat .non) (backE args (e.take np) (A.filter (· < np)))
    | _ => False) (fun x e => KX x (backE args (e.take np) (A.filter (· < np))))
def spX (Γ : Gam) (xc : Nat → Addr) (np : Nat) (g : Fx Γ) : Sp := fun vs H Q E => ∃ (args : List (Sl Γ)) (w : Wd) (K : Sl Γ → List (Sl Γ) → Prop) (KX : Er → List (Sl Γ) → Prop), g args K KX ∧ args.length = np ∧ w.H = H ∧ ER Γ w (vs.map some) args ∧
  (∀ r args' v w' Fr, K r args' → ER Γ w' (vs.map some) args' → TR Γ w' v r Fr → Step w w' → Fresh w Fr → Q v w'.H) ∧ ∀ x args' w' dx, KX x args' → ER Γ w' (vs.map some) args' → Step w w' → XR Γ w' dx x → E (.ref (xc x.c)) (dxo x dx) w'.H
section
variable {P : Program} {w : World} {mg : Str → Option Value} {base : Heap} {K : PySem.W.Frag}
/-- a def that may raise runs where no repr is under way -/
theorem fnX_run {x qual : Str} {st : Stmt} {f : Addr} {fd : FuncData} {N ps : List Str} {k : Nat} {A : Around} {outer : List PySem.Env} {s : Shared} {H : Hp} {args : Args} {us : List Value} {vs : List V} {Q : VK} {E : XK}
    (F : Fun K x qual st f fd) (S : FnScope N ps (defScope st)) (hl : vs.length = ps.length) (hr : Room (k + 1) A) (e0 : Env0 P w K mg base A outer s H) (hb : BindsTo s fd args (ps.zip us)) (r : Vals vs us)
    (body : ∀ cdv : Value, Room k (A.deeper (PyProof.Rows.envOfC qual (defScope st) s.heap.objs.size f cdv)) → wSs (cxOf (L2.CX P w) P w K mg base N qual (defScope st) f cdv A outer s H E) (defBody st) { nx := fun _ H' => Q .non H', rt := Q } (L2.start N vs) H) :
    codeAny (model P w) A (.call (.ref f) args) (CR (L2.CX P w) outer P w H s Q E) s := by
  obtain ⟨oc, od, kV, doc, pm, an, cdv, ct, osl, efd, lk, hcd⟩ := F.ex
  subst efd
  have inK := e0.mod.kin.keeps fun b o e => (e0.bs b o e).1
  have nolim := e0.mod.nolimit.keeps fun b o e => (e0.bs b o e).1
  refine codeAny_call_function hr.depth (inK _ _ lk) rfl S.co S.gen rfl (PySem.W.codeRec_of inK hcd) (hb _ _ _ _ ?_)
  refine wpAny_newFunctionEnv_cells S.kind (fun y hy => ?_) fun env he s1 ic => ?_
  · rcases S.par y.1 (List.of_mem_zip hy).1 with q | q
    · exact .inl q
    · exact .inr ⟨q, PySem.W.cellsFrom_some _ _ _ (.inl q)⟩
  · subst he
    refine ⟨nolim.keeps ic.toInCall.keep, codeAny_func ?_⟩
    have I0 := inv_start (CX := L2.CX P w) (E := E) S hr.hd e0 hl r ic
    refine wpAny_mono (body cdv (hr.deeper _) [] s1 I0) (fun fl s' out => ?_) fun e s' z => z
    cases fl with
    | ret u =>
      obtain ⟨v, σ1, H1, J, rv, q⟩ := out
      exact ⟨v, H1, J.os, J.bare, J.base, J.hok, rv, q⟩
    | next =>
      obtain ⟨σ1, H1, J, q⟩ := out
      exact ⟨.non, H1, J.os, J.bare, J.base, J.hok, rfl, q⟩
    | brk =>
      obtain ⟨_, _, _, q⟩ := out
      exact q.elim
    | cont =>
      obtain ⟨_, _, _, q⟩ := out
      exact q.elim
end
section
variable {Γ : Gam} {xc : Nat → Addr} {P : Program} {w : World} {mg : Str → Option Value} {base : Heap}
abbrev cxX (Γ : Gam) (P : Program) (w : World) (mg : Str → Option Value) (base : Heap) (N : List Str) (qual : Str) (st : Stmt) (f : Addr) (cdv : Value) (Ar : Around) (outer : List PySem.Env) (s : Shared) (H : Hp) (E : XK) : Cx := cxOf (L2.CX P w) P w Γ.K mg base N qual (defScope st) f cdv Ar outer s H E
theorem bodyX {qual : Str} {st : Stmt} {f : Addr} {N ps : List Str} {k : Nat} {A : List Nat} {q : Qs Γ} (S : FnScope N ps (defScope st)) {cdv : Value} {Ar : Around} {outer : List PySem.Env} {s : Shared} {H : Hp} {vs : List V} {Q : VK} {E : XK}
    (hr : Room k (Ar.deeper (PyProof.Rows.envOfC qual (defScope st) s.heap.objs.size f cdv)))
    (hb : Takes (cxX Γ P w mg base N qual st f cdv Ar outer s H E) (fun cls d _ H' => E cls d H') → PassesOwn (model P w) (cxX Γ P w mg base N qual st f cdv Ar outer s H E).A (cxX Γ P w mg base N qual st f cdv Ar outer s H E).env (cxX Γ P w mg base N qual st f cdv Ar outer s H E).xe →
      SdXSs Γ (cxX Γ P w mg base N qual st f cdv Ar outer s H E) xc (fun cls d _ H' => E cls d H') A (defBody st) q)
    (h : spX Γ xc ps.length (xFun ps.length (N.length - ps.length) A q) vs H Q E) : wSs (cxX Γ P w mg base N qual st f cdv Ar outer s H E) (defBody st) { nx := fun _ H' => Q .non H', rt := Q } (L2.start N vs) H := by
  obtain ⟨as, w1, K, KX, ⟨_, hc, hg⟩, hl, rfl, Er, k1, k2⟩ := h
  have hlv : vs.length = ps.length := by have := Er.len; rw [List.length_map] at this; omega
  have es : L2.start N vs = vs.map some ++ List.replicate (N.length - ps.length) none := by unfold L2.start; rw [hlv]
  have Gx : Gd Γ (cxX Γ P w mg base N qual st f cdv Ar outer s w1.H E) := ⟨rfl, rfl, by have := hr.un; show (Ar.deeper (PyProof.Rows.envOfC qual (defScope st) s.heap.objs.size f cdv)).units + 65 < cLine; omega, S.nd⟩
  have X0 := Er.extend (N.length - ps.length)
  rw [es]
  have hc2 := hc
  rw [← hl] at hc2
  refine (hb (takes_of rfl rfl rfl rfl) (passes_of rfl)).run Gx _ _ w1 _ _ _ hg X0 (fun fl env' hk => ?_) fun x env' hk σ' w' dx E' p' a' xr => ?_
  · cases fl with
    | rt s1 =>
      intro v σ' w' Fr E' T' p' f' a'
      have E2 := Er.cut E' p' a' hc2
      exact k1 s1 _ v ⟨w'.M, fun i x => i < as.length ∧ i ∉ A ∧ w'.F i x, w'.H⟩ Fr (by rw [← hl] at hk; exact hk) E2 ⟨T'.rep, T'.sub, fun a i z q => T'.off a i z q.2.2⟩ ⟨p'.keep, p'.mu, p'.src, fun i a q => p'.own i a q.2.2, p'.live⟩ f'
    | nx =>
      intro σ' w' E' p' a'
      have E2 := Er.cut E' p' a' hc2
      exact k1 (.dat .non) _ .non ⟨w'.M, fun i x => i < as.length ∧ i ∉ A ∧ w'.F i x, w'.H⟩ (fun _ => False) (by rw [← hl] at hk; exact hk) E2 (TR.dat .non) ⟨p'.keep, p'.mu, p'.src, fun i a q => p'.own i a q.2.2, p'.live⟩ fun _ z => z.elim
    | bk => exact hk.elim
    | ct => exact hk.elim
  · have E2 := Er.cut E' p' a' hc2
    exact k2 x _ ⟨w'.M, fun i x => i < as.length ∧ i ∉ A ∧ w'.F i x, w'.H⟩ dx (by rw [← hl] at hk; exact hk) E2 ⟨p'.keep, p'.mu, p'.src, fun i a q => p'.own i a q.2.2, p'.live⟩ ⟨xr.ex, xr.nm⟩
theorem spX_len {np : Nat} {g : Fx Γ} {vs : List V} {H : Hp} {Q : VK} {E : XK} (h : spX Γ xc np g vs H Q E) : vs.length = np := by
  obtain ⟨as, w1, K, KX, _, hl, _, Er, _, _⟩ := h
  have := Er.len
  rw [List.length_map] at this
  omega
/-- a def of the text, where no repr is under way -/
theorem fn_okXG {x qual : Str} {st : Stmt} {f : Addr} {fd : FuncData} {N ps : List Str} {k np loc : Nat} {A : List Nat} {q : Qs Γ} {g : Fx Γ} (F : Fun Γ.K x qual st f fd) (S : FnScope N ps (defScope st)) (hp : ps.length = np) (hl : N.length - np = loc) (e3 : g = xFun np loc A q)
    (hb : ∀ (cdv : Value) (Ar : Around) (outer : List PySem.Env) (s : Shared) (H : Hp) (E : XK), Ar.guards = some [] → Room k (Ar.deeper (PyProof.Rows.envOfC qual (defScope st) s.heap.objs.size f cdv)) →
      Takes (cxX Γ P w mg base N qual st f cdv Ar outer s H E) (fun cls d _ H' => E cls d H') →
      PassesOwn (model P w) (cxX Γ P w mg base N qual st f cdv Ar outer s H E).A (cxX Γ P w mg base N qual st f cdv Ar outer s H E).env (cxX Γ P w mg base N qual st f cdv Ar outer s H E).xe →
      SdXSs Γ (cxX Γ P w mg base N qual st f cdv Ar outer s H E) xc (fun cls d _ H' => E cls d H') A (defBody st) q) :
    FnG P w Γ.K mg base (L2.CX P w) (k + 1) f fd ps (spX Γ xc np g) := by
  subst hp hl e3
  refine ⟨fun h => spX_len h, fun {Ar outer s H args us vs Q E} gd hr e0 hbi r h => ?_⟩
  exact fnX_run F S (spX_len h) hr e0 hbi r fun cdv hr2 => bodyX S hr2 (hb cdv Ar outer s H E gd hr2) h
end
def xGo {Γ : Gam} (np : Nat) (g : Fx Γ) (xs : List (Ag Γ)) (env : Env Γ) (K : Sl Γ → Env Γ → Prop) (KX : Er → Env Γ → Prop) : Prop :=
  ∃ args env2 bs, takeA xs env = some (args, env2, bs) ∧ args.length = np ∧ g args (fun r args' => K r (putA bs args' env2)) (fun x args' => KX x (putA bs args' env2))
def xCall {Γ : Gam} (np : Nat) (g : Fx Γ) (as : List (XA Γ)) : Qe Γ := fun env K KX => evX as env (fun xs e => xGo np g xs e K KX) KX
section
variable {Γ : Gam} {X : Cx} {xc : Nat → Addr} {W : WX} {σ : St}
/-- behind a call: what was lent is back -/
theorem call_back {env env1 env2 : Env Γ} {xs : List (Ag Γ)} {vs : List V} {Frs : List (Addr → Prop)} {args : List (Sl Γ)} {bs : List (Option Nat)} {w w1 : Wd} (E : ER Γ w σ env) (p1 : Step w w1) (E1 : ER Γ w1 σ env1) (A1 : ARs Γ w1 σ vs xs Frs) (f1 : ∀ G ∈ Frs, Fresh w G) (g2 : takeA xs env1 = some (args, env2, bs)) :
    ∃ Fc, ER Γ ⟨w1.M, Fc, w1.H⟩ (vs.map some) args ∧ ∀ (wc : Wd) (args' : List (Sl Γ)), ER Γ wc (vs.map some) args' → Step ⟨w1.M, Fc, w1.H⟩ wc → ∃ F', ER Γ ⟨wc.M, F', wc.H⟩ σ (putA bs args' env2) ∧ Step w ⟨wc.M, F', wc.H⟩ ∧
      (∀ v r Fr, TR Γ wc v r Fr → Fresh ⟨w1.M, Fc, w1.H⟩ Fr → TR Γ ⟨wc.M, F', wc.H⟩ v r Fr ∧ Fresh w Fr) ∧ (∀ (j : Nat) (s : Sl Γ), args'[j]? = some s → bs[j]? = some none → s = .none ∨ ∃ u G, vs[j]? = some u ∧ TR Γ ⟨wc.M, F', wc.H⟩ u s G ∧ Fresh w G) := by
  obtain ⟨Fc, F2, Ec, E2, c1, c2, c3, c4, c5⟩ := take_ok E1 A1 g2
  refine ⟨Fc, Ec, fun wc args' Ec' pc => ?_⟩
  have gc := Ec.go pc
  have keep2 : ∀ i a u, F2 i a → w1.H a = some u → wc.H a = some u := fun i a u f e => pc.keep a u (fun j z => c3 j i a z f) e
  have E3 : ER Γ ⟨wc.M, F2, wc.H⟩ σ env2 := by
    refine ⟨E2.len, fun i s hs => ?_, fun i a f => pc.mu a (fun j z => c3 j i a z f) (E2.sub i a f), E2.dis, Ec'.dom, E2.out⟩
    rcases E2.slot i s hs with z | ⟨u, eu, ru⟩
    · exact .inl z
    · exact .inr ⟨u, eu, ru.go gc fun a o f e => keep2 i a o f e⟩
  have off2 : ∀ a, ((∃ j, Fc j a) ∨ w1.H a = none) → ∀ i, ¬ F2 i a := fun a h i f => by
    rcases h with ⟨j, z⟩ | z
    · exact c3 j i a z f
    · exact E2.dom a (E2.sub i a f) z
  obtain ⟨F', E4, h4⟩ := put_ok bs args' vs wc.F ⟨wc.M, F2, wc.H⟩ env2 E3 (fun j s hs => by
      rcases Ec'.slot j s hs with z | ⟨u, eu, ru⟩
      · exact .inl z
      · refine .inr ⟨u, ?_, ru⟩
        rw [List.getElem?_map] at eu
        cases q : vs[j]? with
        | none => rw [q] at eu; cases eu
        | some x => rw [q] at eu; cases eu; rfl)
    (fun j a f => ⟨Ec'.sub j a f, off2 a (pc.own j a f)⟩) Ec'.dis c5
  have fw : ∀ a, ((∃ j, Fc j a) ∨ w1.H a = none) → (∃ i, w.F i a) ∨ w.H a = none := fun a h => by
    have back : w1.H a = none → w.H a = none := fun z => by
      cases q : w.H a with
      | none => rfl
      | some u => exact absurd z (p1.live a (by rw [q]; simp))
    rcases h with ⟨j, z⟩ | z
    · rcases c1 j a z with ⟨i, y⟩ | ⟨G, hG, y⟩
      · exact p1.own i a y
      · exact f1 G hG a y
    · exact .inr (back z)
  have nFc : ∀ a, (∀ i, ¬ w.F i a) → w.H a ≠ none → ∀ j, ¬ Fc j a := fun a h hn j z => (fw a (.inl ⟨j, z⟩)).elim (fun ⟨i, y⟩ => h i y) hn
  refine ⟨F', E4, ⟨fun a u h e => ?_, fun a h m => ?_, fun a m => ?_, fun i a f => ?_, fun a h => ?_⟩, fun v r Fr T' fc => ⟨⟨T'.rep, T'.sub, fun a i f z => ?_⟩, fun a f => fw a (fc a f)⟩, ?_⟩
  · exact pc.keep a u (nFc a h (by rw [e]; simp)) (p1.keep a u h e)
  · exact pc.mu a (nFc a h (E.dom a m)) (p1.mu a h m)
  · rcases pc.src a m with z | z
    · exact p1.src a z
    · refine .inr ?_
      cases q : w.H a with
      | none => rfl
      | some u => exact absurd z (p1.live a (by rw [q]; simp))
  · rcases h4 i a f with y | ⟨j, _, y⟩
    · exact p1.own i a (c2 i a y)
    · exact fw a (pc.own j a y)
  · exact pc.live a (p1.live a h)
  · rcases h4 i a z with y | ⟨j, _, y⟩
    · exact off2 a (fc a f) i y
    · exact T'.off a j f y
  · intro j s hs hb
    rcases Ec'.slot j s hs with ⟨z, _⟩ | ⟨u, eu, ru⟩
    · exact .inl z
    · refine .inr ⟨u, wc.F j, ?_, ⟨ru, fun a f => Ec'.sub j a f, fun a i f z => ?_⟩, fun a f => fw a (pc.own j a f)⟩
      · rw [List.getElem?_map] at eu
        cases q : vs[j]? with
        | none => rw [q] at eu; cases eu
        | some x => rw [q] at eu; cases eu; rfl
      · rcases h4 i a z with y | ⟨j', b, y⟩
        · exact off2 a (pc.own j a f) i y
        · have ej := Ec'.dis j' j a y f
          subst ej
          rw [hb] at b
          cases b
theorem gox_run {np : Nat} {g : Fx Γ} {env env1 : Env Γ} {xs : List (Ag Γ)} {vs : List V} {Frs : List (Addr → Prop)} {w w1 : Wd} {K : Sl Γ → Env Γ → Prop} {KX : Er → Env Γ → Prop} {Q : VK} (E : ER Γ w σ env) (p1 : Step w w1) (E1 : ER Γ w1 σ env1) (A1 : ARs Γ w1 σ vs xs Frs) (f1 : ∀ G ∈ Frs, Fresh w G)
    (he : xGo np g xs env1 K KX) (k : ∀ r env' v w' Fr, K r env' → ER Γ w' σ env' → TR Γ w' v r Fr → Step w w' → Fresh w Fr → Q v w'.H) (kx : ∀ x env', KX x env' → ZPostE Γ xc σ w W x env') : spX Γ xc np g vs w1.H Q (WE W σ) := by
  obtain ⟨args, env2, bs, g2, hn, hg⟩ := he
  obtain ⟨Fc, Ec, back⟩ := call_back E p1 E1 A1 f1 g2
  refine ⟨args, ⟨w1.M, Fc, w1.H⟩, _, _, hg, hn, rfl, Ec, fun r args' v wc Fr hk Ec' T' pc fc => ?_, fun x args' wc dx hx Ec' pc xr => ?_⟩
  · obtain ⟨F', E4, p4, bt, _⟩ := back wc args' Ec' pc
    obtain ⟨T4, f4⟩ := bt v r Fr T' fc
    exact k r _ v ⟨wc.M, F', wc.H⟩ Fr hk E4 T4 p4 f4
  · obtain ⟨F', E4, p4, _, _⟩ := back wc args' Ec' pc
    exact kx x _ hx ⟨wc.M, F', wc.H⟩ dx E4 p4 ⟨xr.ex, xr.nm⟩
/-- a def of the text as it may be called where no repr is under way -/
structure DfX (Γ : Gam) (X : Cx) (xc : Nat → Addr) (x : Str) (np : Nat) (g : Fx Γ) : Prop where
  ex : ∃ k f fd ps, FnG X.prog X.w X.K X.mg X.base (L2.CX X.prog X.w) k f fd ps (spX Γ xc np g) ∧ Room k X.A ∧ X.A.guards = some [] ∧ X.mg x = some (.ref f) ∧ PySem.W.keepIn X.K (.ref f) = true ∧ Binds X.K fd ps []
structure CaX (Γ : Gam) (P : Program) (w : World) (mg : Str → Option Value) (base : Heap) (xc : Nat → Addr) (x : Str) (np : Nat) (g : Fx Γ) (k : Nat) : Prop where
  ex : ∃ f fd ps, FnG P w Γ.K mg base (L2.CX P w) k f fd ps (spX Γ xc np g) ∧ mg x = some (.ref f) ∧ PySem.W.keepIn Γ.K (.ref f) = true ∧ Binds Γ.K fd ps []
theorem CaX.df {x : Str} {np : Nat} {g : Fx Γ} {k j : Nat} (hK : Γ.K = X.K) (c : CaX Γ X.prog X.w X.mg X.base xc x np g k) (hg : X.A.guards = some []) (hr : Room j X.A) (h : k ≤ j) : DfX Γ X xc x np g := by
  obtain ⟨f, fd, ps, h1, h2, h3, h4⟩ := c
  exact ⟨k, f, fd, ps, hK ▸ h1, hr.mono h, hg, h2, hK ▸ h3, hK ▸ h4⟩
theorem fnG_call {k : Nat} {f : Addr} {fd : FuncData} {ps : List Str} {sp : Sp} {pins : List (Addr × Obj)} {s : Shared} {H : Hp} {Q : VK} {us : List Value} {vs : List V} (F : FnG X.prog X.w X.K X.mg X.base (L2.CX X.prog X.w) k f fd ps sp) (hr : Room k X.A) (hg : X.A.guards = some []) (hb : Binds X.K fd ps []) (tk : Takes X W)
    (I : Inv X pins σ H s) (r : Vals vs us) (h : sp vs H Q (WE W σ)) : wpAny (model X.prog X.w) X.A (call (.ref f) us) (EP X pins σ Q) X.xe s := by
  refine wpAny_call (codeAny_mono (F.go hg hr I.env0 (us := us) ?_ r h) fun res s2 fin => ?_)
  · have b := hb s us I.kIn (by rw [List.append_nil, ← r.length]; exact F.size h)
    rw [List.append_nil] at b
    exact b
  · match res, fin with
    | .ok (.ret u), fin => exact I.after fin
    | .error e, fin => exact passAt tk σ pins H s e s2 I fin
theorem sdx_call {x : Str} {np : Nat} {g : Fx Γ} {e : Expr} {es : List Expr} {as : List (XA Γ)} {p pos : Pos} (h : DfX Γ X xc x np g) (tk : Takes X W) (hg : Gl X x) (ha : SdXL Γ X xc W (e :: es) as) (hdb : (x == ("__debug__" : Str)) = false := by decide) (hpl : (backTo pos (starEach es X.env)).any (·.1) = false := by rfl) :
    SdX Γ X xc W (.Call (.Name x p) (e :: es) [] pos) (xCall np g as) := by
  obtain ⟨k, f, fd, ps, h1, h2, h3, h4, h5, h6⟩ := h
  refine ⟨fun hK σ env w K KX Q he E kk kx => ?_⟩
  have run : wL X (e :: es) σ w.H fun vs H1 => spX Γ xc np g vs H1 Q (WE W σ) := xl_run hK ha he E (fun xs env' vs w1 Frs hk E1 A1 p1 f1 => gox_run E p1 E1 A1 f1 hk kk kx) kx
  intro pins s I
  refine wpAny_Call_Name_kw (ld_glob I hg h4 ?_ hdb)
  refine PySem.W.callWith_K (h₀ := X.base) I.ok.mod.kin h5 (thn ((pa_wL ha.ns).run pos pins s σ w.H _ I run) fun us s1 out => ?_) (ha.ns e List.mem_cons_self es) hpl
  obtain ⟨vs, H1, I1, rv, q⟩ := out
  exact ⟨I1.kIn, fnG_call h1 h2 h3 h6 tk I1 rv q⟩
end
end G

set_option maxHeartbeats 4000000
namespace G
open PySem L2
def Gr.put (gr : Gr) (a : Addr) (c : Cell) : Gr := fun b => if b = a then some c else gr b
def Gr.join (gr gr1 : Gr) : Gr := fun b => match gr1 b with
  | some c => some c
  | none => gr b
def Gr.one (a : Addr) (c : Cell) : Gr := fun b => if b = a then some c else none
theorem put_same {gr : Gr} {a : Addr} {c : Cell} : gr.put a c a = some c := if_pos rfl
theorem put_ne {gr : Gr} {a b : Addr} {c : Cell} (h : b ≠ a) : gr.put a c b = gr b := if_neg h
section
variable {Γ : Gam} {X : Cx} {xc : Nat → Addr} {W : WX} {σ : St} {A : List Nat} {a b e o : Expr} {es : List Expr} {as : List (XA Γ)} {p q qo qv qk : Qe Γ} {pos : Pos}
/-- slot g's graph becomes another one, one address more or less changed -/
theorem ER.regra {w w1 : Wd} {env : Env Γ} {g : Nat} {root : Addr} {gr gr' : Gr} {H' : Hp} {Fr : Addr → Prop} (p1 : Step w w1) (E : ER Γ w1 σ env) (h : env[g]? = some (.obj (.gra root gr))) (live : ∀ b, w1.H b ≠ none → H' b ≠ none) (keep : ∀ b u, gr b = none → w1.H b = some u → H' b = some u)
    (sub : ∀ b, Fr b → w1.M b) (off : ∀ b i, Fr b → ¬ w1.F i b) (fr : Fresh w Fr) (dom : ∀ b, gr' b ≠ none → gr b ≠ none ∨ Fr b) (cells : ∀ b c, gr' b = some c → CellR Γ w1.M H' b c) :
    ∃ w2, w2.H = H' ∧ w2.M = w1.M ∧ ER Γ w2 σ (env.set g (.obj (.gra root gr'))) ∧ Step w w2 := by
  obtain ⟨ev, h1, hF⟩ := E.gra h
  have E2 := E.chg (i := g) (v := .ref root) (s' := .obj (.gra root gr')) (Fi := fun b => gr' b ≠ none) (H' := H') ev (fun b u nb e => keep b u (Classical.byContradiction fun z => nb ((hF b).mpr z)) e) live
    (fun b z => by
      rcases dom b z with y | y
      · have fb := (hF b).mpr y
        exact ⟨E.sub g b fb, fun j hj q => hj (E.dis j g b q fb)⟩
      · exact ⟨sub b y, fun j _ q => off b j y q⟩) ⟨rfl, cells, fun _ => Iff.rfl⟩
  refine ⟨⟨w1.M, fun j b => if j = g then gr' b ≠ none else w1.F j b, H'⟩, rfl, rfl, E2, ⟨fun b u nb e => ?_, p1.mu, p1.src, fun j b z => ?_, fun b hb => live b (p1.live b hb)⟩⟩
  · refine keep b u (Classical.byContradiction fun z => ?_) (p1.keep b u nb e)
    rcases p1.own g b ((hF b).mpr z) with ⟨j, y⟩ | y
    · exact nb j y
    · rw [e] at y; cases y
  · have z' : (if j = g then gr' b ≠ none else w1.F j b) := z
    split at z'
    · rcases dom b z' with y | y
      · exact p1.own g b ((hF b).mpr y)
      · exact fr b y
    · exact p1.own j b z'
/-- the thing at a is written -/
theorem ER.cell {w w1 : Wd} {env : Env Γ} {g : Nat} {root a : Addr} {gr : Gr} {c c' : Cell} {u : HO} (p1 : Step w w1) (E : ER Γ w1 σ env) (h : env[g]? = some (.obj (.gra root gr))) (ha : gr a = some c) (hc : CellR Γ w1.M (upd w1.H a u) a c') :
    ∃ w2, w2.H = upd w1.H a u ∧ w2.M = w1.M ∧ ER Γ w2 σ (env.set g (.obj (.gra root (gr.put a c')))) ∧ Step w w2 := by
  obtain ⟨ev, h1, hF⟩ := E.gra h
  have ma : w1.M a := E.sub g a ((hF a).mpr (by rw [ha]; exact nofun))
  have go : Go w1.M w1.H w1.M (upd w1.H a u) := ⟨fun b o n e => by rw [upd_ne (fun (z : b = a) => n (z ▸ ma))]; exact e, fun _ n _ => n⟩
  refine E.regra p1 (Fr := fun _ => False) h (fun b hb => ?_) (fun b o n e => ?_) (fun _ z => z.elim) (fun _ _ z => z.elim) (fun _ z => z.elim) (fun b z => ?_) (fun b c2 e => ?_)
  · by_cases z : b = a
    · rw [z, upd_same]; exact nofun
    · rw [upd_ne z]; exact hb
  · rw [upd_ne (fun z => by rw [z, ha] at n; cases n)]; exact e
  · by_cases y : b = a
    · rw [y, ha]; exact .inl nofun
    · rw [put_ne y] at z; exact .inl z
  · by_cases y : b = a
    · subst y
      rw [put_same] at e
      cases e
      exact hc
    · rw [put_ne y] at e
      exact (h1 b c2 e).go go fun o q => by rw [upd_ne y]; exact q
end
end G

set_option maxHeartbeats 4000000
namespace G
open PySem L2
section
variable {Γ : Gam} {X : Cx} {xc : Nat → Addr} {W : WX} {σ : St} {a b e o : Expr} {es : List Expr} {as : List (XA Γ)} {p q qo qv qk : Qe Γ} {pos : Pos} {c np n : Nat} {g : Fx Γ}
end
end G

set_option maxHeartbeats 4000000
namespace G
open PySem L2
abbrev WN : WX := fun _ _ _ _ => False
abbrev Q0 {Γ : Gam} : Er → Env Γ → Prop := fun _ _ => False
inductive SdXC (Γ : Gam) (X : Cx) (xc : Nat → Addr) (scope : Scope) : List Expr → TT → Qt Γ → Prop
  | nil : SdXC Γ X xc scope [] tYes (fun env K _ => K true env)
  | one {c : Expr} {qc : Qt Γ} : AllB X scope (fun Y => SdXT Γ Y xc WN c qc) → SdXC Γ X xc scope [c] (bT X scope c) qc
section
variable {Γ : Gam} {X : Cx} {xc : Nat → Addr} {W : WX} {σ : St} {A : List Nat}
theorem z0 {w : Wd} : ∀ (x : Er) (env' : Env Γ), Q0 x env' → ZPostE Γ xc σ w WN x env' := fun _ _ z => z.elim
theorem SdXC.run {scope : Scope} {ifs : List Expr} {tt : TT} {qc : Qt Γ} (h : SdXC Γ X xc scope ifs tt qc) (hK : Gd Γ X) {σ : St} {env : Env Γ} {w : Wd} {K : Bool → Env Γ → Prop} {Q : Bool → Hp → Prop} (he : qc env K Q0) (E : ER Γ w σ env) (k : ∀ b env' w', K b env' → ER Γ w' σ env' → Step w w' → Q b w'.H) : tt σ w.H Q := by
  cases h with
  | nil => exact k true env w he E (Step.refl w)
  | one hc => exact fun s H C cl fp => (hc s H C cl fp).run (hK.blk s H C cl fp) σ env w K Q0 Q he E k z0
theorem SdXC.pts {scope : Scope} {ifs : List Expr} {tt : TT} {qc : Qt Γ} (h : SdXC Γ X xc scope ifs tt qc) : AllB X scope fun Y => PTs Y ifs tt := fun s H C cl fp => by
  cases h with
  | nil => exact pts_nil
  | one hc => exact pts_one ⟨fun pins s' σ H' Q I q => q s H C cl fp pins s' I⟩
end
end G

set_option maxHeartbeats 4000000
namespace G
open PySem PySem.Spec PyProof.Rows L2 PpSet
section
variable {X : Cx}
end
end G

set_option maxHeartbeats 4000000
namespace G
open PySem L2
section
variable {Γ : Gam} {X : Cx} {xc : Nat → Addr} {W : WX} {σ : St} {A : List Nat}
end
end G

set_option maxHeartbeats 4000000
namespace G
open PySem PySem.Spec PyProof.Rows L2
section
variable {X : Cx} {e : Expr} {td : TE} {p pos apos cpos : Pos}
end
end G

set_option maxHeartbeats 4000000
namespace G
open PySem L2
section
variable {Γ : Gam} {X : Cx} {a b : Expr} {f h : Ev Γ} {p pos : Pos}
end
section
variable {Γ : Gam} {X : Cx} {xc : Nat → Addr} {W : WX} {σ : St} {A : List Nat} {a b e : Expr} {as : List (XA Γ)} {qo : Qe Γ} {pos p apos cpos : Pos}
structure SfXC (Γ : Gam) (P : Program) (w : World) (mg : Str → Option Value) (base : Heap) (xc : Nat → Addr) (c : Nat) (m : Str) (np : Nat) (g : Fx Γ) (k : Nat) : Prop where
  ex : ∃ C ns f fd ps, Γ.cls c = some (C, ns) ∧ PySem.W.findIn Γ.K (.ref C) m = some (some (.ref f)) ∧ PySem.W.isFn Γ.K (.ref f) = true ∧ FnOk P w Γ.K mg base (L2.CX P w) k f fd ps (spX Γ xc np g) ∧ Binds Γ.K fd ps []
variable {xa : XA Γ} {x : Str} {npos : Pos}
end
end G

set_option maxHeartbeats 4000000
namespace G
open PySem PySem.Spec PyProof.Rows L2 ItX
/-- __iter__ gives a new iterator of the list at self.fld -/
structure ItLK (P : Program) (w : World) (K : PySem.W.Frag) (mg : Str → Option Value) (base : Heap) (C : Addr) (fld : Str) (k : Nat) (f : Addr) (fd : FuncData) (ps : List Str) : Prop where
  len : ps.length = 1
  run : ∀ (A : Around) (outer : List PySem.Env) (s : Shared) (H : Hp) (args : Args) (a dx : Addr) (fs : List (Str × V)) (t : Addr) (zs : List V) (Q : VK), Room k A → Env0 P w K mg base A outer s H → BindsTo s fd args (ps.zip [.ref a]) →
    H a = some (.ins C dx fs) → fs.lookup fld = some (.ref t) → SqL K H t zs → (∀ it, H it = none → s.heap.objs.size ≤ it → Q (.ref it) (upd H it (ItO t it 0))) → codeAny (model P w) A (.call (.ref f) args) (CR (L2.CX P w) outer P w H s Q E0) s
section
variable {P : Program} {w : World} {K : PySem.W.Frag} {mg : Str → Option Value} {base : Heap}
end
section
variable {X : Cx} {tg : Expr} {k n : Nat} {x fld : Str} {p : Pos} {C f : Addr} {fd : FuncData} {ps : List Str}
end
structure IfXC (Γ : Gam) (P : Program) (w : World) (mg : Str → Option Value) (base : Heap) (c : Nat) (fld : Str) (k : Nat) : Prop where
  ex : ∃ C ns f fd ps, Γ.cls c = some (C, ns) ∧ PySem.W.findIn Γ.K (.ref C) "__iter__" = some (some (.ref f)) ∧ PySem.W.isFn Γ.K (.ref f) = true ∧ ItLK P w Γ.K mg base C fld k f fd ps ∧ Binds Γ.K fd ps []
section
variable {Γ : Gam} {X : Cx} {xc : Nat → Addr} {W : WX} {x fld : Str} {p : Pos} {c k j : Nat} {tg : Expr}
end
end G

set_option maxHeartbeats 4000000
namespace G
open PySem L2
section
variable {Γ : Gam} {X : Cx} {xc : Nat → Addr} {W : WX} {A : List Nat} {c : Nat} {fld nm x x1 xb yb : Str} {c1 : Value} {CM : Addr} {body : List Stmt} {q : Qs Γ} {np1 hp1 tpos npos nnp nnp2 nnp3 ap apos cpos epos ip ip2 ip3 ip4 ip5 ip6 ep2 bp tp : Pos} {jj : Nat}
end
end G

set_option maxHeartbeats 4000000
namespace G
open PySem L2
mutual
/-- no list in it -/
def nol : D → Bool
  | .non => true
  | .bl _ => true
  | .int _ => true
  | .str _ => true
  | .raw _ => true
  | .tup ds => nols ds
  | .ins _ ds => nols ds
  | _ => false
def nols : List D → Bool
  | [] => true
  | d :: ds => nol d && nols ds
end
section
variable {Γ : Gam} {M : Addr → Prop} {H : Hp} {p : Addr} {us : List V}
mutual
theorem dat_addX (hp : H p = some (.lst us)) : ∀ {v : V} {d : D}, Dat Γ M H v d → nol d = true → Dat Γ (fun q => M q ∨ q = p) H v d
  | _, _, .non, _ => .non
  | _, _, .bl b, _ => .bl b
  | _, _, .int i, _ => .int i
  | _, _, .str x, _ => .str x
  | _, _, .tup (a := a) (vs := vs) ht hd, n => .tup (by
      rcases ht with ⟨n, hR⟩ | hK
      · refine .inl ⟨fun z => z.elim n fun e => ?_, hR⟩
        subst e
        rcases hR with y | ⟨o, y⟩
        · rw [y] at hp; cases hp
        · rw [y] at hp; cases hp
      · exact .inr hK) (dats_addX hp hd n)
  | _, _, .lst _ _ _, n => nomatch n
  | _, _, .ins e m h l r, n => .ins e (fun z => z.elim m fun y => by subst y; rw [h] at hp; cases hp) h l (dats_addX hp r n)
  | _, _, .odd _ _, n => nomatch n
  | _, _, .dic _ _ _ _, n => nomatch n
  | _, _, .cls _, n => nomatch n
  | _, _, .val _, n => nomatch n
  | _, _, .raw a, _ => .raw a
theorem dats_addX (hp : H p = some (.lst us)) : ∀ {vs : List V} {ds : List D}, Dats Γ M H vs ds → nols ds = true → Dats Γ (fun q => M q ∨ q = p) H vs ds
  | _, _, .nil, _ => .nil
  | _, _, .cons h r, n => by
    have n' : (nol _ && nols _) = true := n
    rw [Bool.and_eq_true] at n'
    exact .cons (dat_addX hp h n'.1) (dats_addX hp r n'.2)
end
theorem kdats_addX (hp : H p = some (.lst us)) : ∀ {vs : List (Key × V)} {ds : List (Key × D)}, KDats Γ M H vs ds → nols (ds.map (·.2)) = true → KDats Γ (fun q => M q ∨ q = p) H vs ds
  | _, _, .nil, _ => .nil
  | _, _, .cons h r, n => by
    have n' : (nol _ && nols _) = true := n
    rw [Bool.and_eq_true] at n'
    exact .cons (dat_addX hp h n'.1) (kdats_addX hp r n'.2)
end
def okC : Cell → Prop
  | .lst ds => nols ds = true
  | .dic kvs => nols (kvs.map (·.2)) = true
  | .ins _ fs => nols (fs.map (·.2)) = true
/-- what a slot may hold behind a def that was lent a list -/
def okS {Γ : Gam} : Sl Γ → Prop
  | .dat d => nol d = true
  | .lst ds => nols ds = true
  | .obj (.gra _ gr) => ∀ a c, gr a = some c → okC c
  | _ => False
section
variable {Γ : Gam} {M : Addr → Prop} {H : Hp} {p : Addr} {us : List V} {σ : St}
theorem okC_add {a : Addr} {c : Cell} (h : CellR Γ M H a c) (ok : okC c) (hp : H p = some (.lst us)) : CellR Γ (fun q => M q ∨ q = p) H a c := by
  cases c with
  | lst ds => obtain ⟨vs, e, r⟩ := h; exact ⟨vs, e, dats_addX hp r ok⟩
  | dic kvs => obtain ⟨vs, e, r⟩ := h; exact ⟨vs, e, kdats_addX hp r ok⟩
  | ins c fs => obtain ⟨C, ns, dx, vs, e1, e2, e3, r⟩ := h; exact ⟨C, ns, dx, vs, e1, e2, e3, dats_addX hp r ok⟩
theorem okS_sr {s : Sl Γ} {v : V} {Fr : Addr → Prop} (h : SR Γ M H v s Fr) (ok : okS s) (hp : H p = some (.lst us)) : SR Γ (fun q => M q ∨ q = p) H v s Fr := by
  cases s with
  | dat d => exact ⟨dat_addX hp h.1 ok, h.2⟩
  | lst ds =>
    obtain ⟨q, ws, rfl, hq, hd, hF⟩ := h
    exact ⟨q, ws, rfl, hq, dats_addX hp hd ok, hF⟩
  | obj o =>
    cases o with
    | gra root gr =>
      obtain ⟨e, cs, f⟩ := h
      exact ⟨e, fun b c q => okC_add (cs b c q) (ok b c q) hp, f⟩
    | _ => exact ok.elim
  | _ => exact ok.elim
end
section
variable {P : Program} {w : World} {mg : Str → Option Value} {base : Heap} {K : PySem.W.Frag}
/-- a promise where nothing is raised -/
theorem FnG.noX {k : Nat} {f : Addr} {fd : FuncData} {ps : List Str} {sp : Sp} (F : FnG P w K mg base (L2.CX P w) k f fd ps sp) : FnG P w K mg base CX0 k f fd ps (fun vs H Q _ => sp vs H Q E0) :=
  ⟨fun z => F.size z, fun g hr e hb v z => codeAny_mono (F.go g hr e hb v z) fun r s' h => match r, h with
    | .ok (.ret _), h => h
    | .ok .next, h => h
    | .ok .brk, h => h
    | .ok .cont, h => h
    | .error _, ⟨_, _, _, _, _, _, _, _, _, _, _, _, z⟩ => z.elim⟩
end
end G

set_option maxHeartbeats 4000000
namespace G
open PySem L2
structure KBdJ (Γ : Gam) (K : PySem.W.Frag) (fd : FuncData) (ps ks : List Str) (n1 j : Nat) (pre : List D) : Prop where
  ex : ∃ (pv : List V) (pu : List Value), Vals pv pu ∧ (∀ M H, Dats Γ M H pv pre) ∧ ∀ (s : Shared) (us ws : List Value), K.In s.heap → us.length = n1 → ws.length = ks.length → BindsTo s fd ⟨us, ks.zip ws⟩ (ps.zip (us ++ (ws.take j ++ (pu ++ ws.drop j))))
section
variable {X : Cx} {CX : CXT} {k n j : Nat} {f C : Addr} {fd : FuncData} {ps ks : List Str} {sp : Sp} {E : XK} {x : Str} {p pos : Pos} {e : Expr} {es : List Expr} {kws : List Keyword} {pv : List V} {pu : List Value} {σ : St} {H : Hp} {Q : VK}
end
structure MkJ (Γ : Gam) (X : Cx) (c : Nat) (x : Str) (np : Nat) (g : Fn Γ) (ks : List Str) (n1 j : Nat) (pre : List D) : Prop where
  ex : ∃ C ns k f fd ps, Γ.cls c = some (C, ns) ∧ Mk X.K C f ∧ X.mg x = some (.ref C) ∧ FnOk X.prog X.w X.K X.mg X.base CX0 k f fd ps (spG Γ np g) ∧ Room (k + 1) X.A ∧ KBdJ Γ X.K fd ps ks n1 j pre
structure MkJCa (Γ : Gam) (P : Program) (w : World) (mg : Str → Option Value) (base : Heap) (c : Nat) (x : Str) (np : Nat) (g : Fn Γ) (ks : List Str) (n1 j : Nat) (pre : List D) (k : Nat) : Prop where
  ex : ∃ C ns f fd ps, Γ.cls c = some (C, ns) ∧ Mk Γ.K C f ∧ mg x = some (.ref C) ∧ FnOk P w Γ.K mg base CX0 k f fd ps (spG Γ np g) ∧ KBdJ Γ Γ.K fd ps ks n1 j pre
section
variable {Γ : Gam} {X : Cx}
theorem MkJCa.kw {c np n1 j k i : Nat} {x : Str} {g : Fn Γ} {ks : List Str} {pre : List D} (hK : Γ.K = X.K) (h : MkJCa Γ X.prog X.w X.mg X.base c x np g ks n1 j pre k) (hr : Room i X.A) (l : k + 1 ≤ i) : MkJ Γ X c x np g ks n1 j pre := by
  obtain ⟨C, ns, f, fd, ps, h1, h2, h3, h4, h5⟩ := h
  exact ⟨C, ns, k, f, fd, ps, h1, hK ▸ h2, h3, hK ▸ h4, hr.mono l, hK ▸ h5⟩
end
end G

set_option maxHeartbeats 4000000
namespace G
open PySem L2
end G

set_option maxHeartbeats 4000000
namespace G
open PySem L2
section
variable {Γ : Gam} {X : Cx} {A : List Nat} {c : Expr} {body : List Stmt} {fc : Et Γ} {g : Es Γ} {pos : Pos}
end
end G

set_option maxHeartbeats 4000000
namespace G
open PySem PySem.Spec L2
section
variable {Γ : Gam} {X : Cx} {A : List Nat} {a b c e : Expr} {fa fb fe : Ev Γ} {pos : Pos}
end
end G

set_option maxHeartbeats 4000000
namespace G
open PySem L2
section
variable {Γ : Gam} {X : Cx} {A : List Nat} {a b c e : Expr} {fa fb fe : Ev Γ} {pos : Pos}
end
end G

set_option maxHeartbeats 4000000
namespace G
open PySem L2
section
variable {Γ : Gam} {X : Cx} {xc : Nat → Addr} {W : WX} {A : List Nat} {a b e : Expr} {q qk : Qe Γ} {pos : Pos}
end
end G

set_option maxHeartbeats 4000000
namespace G
open PySem L2
section
variable {Γ : Gam} {X : Cx} {xc : Nat → Addr} {W : WX} {e : Expr} {es : List Expr} {as : List (XA Γ)} {pos apos npos : Pos} {c np n : Nat} {g : Fx Γ} {m x : Str}
end
end G

set_option maxHeartbeats 4000000
namespace G
open PySem L2
section
variable {Γ : Gam} {X : Cx} {A : List Nat} {pos : Pos}
end
end G

set_option maxHeartbeats 4000000
namespace G
open PySem L2
section
variable {Γ : Gam} {X : Cx} {xc : Nat → Addr} {W : WX} {A : List Nat} {p q : Qe Γ} {pos : Pos}
end
end G

set_option maxHeartbeats 4000000
namespace G
open PySem PySem.W PySem.Calls PyProof.Rows PyProof.V PySem.Spec L2
section
variable {prog : Program} {w : World} {K : Type} [DecidableEq K] {knd : KeyKind prog w K} {A : Around} {E : Value → Shared → Prop} {s : Shared}
end
section
variable {X : Cx} {n : Nat} {D : Eqv}
end
end G

set_option maxHeartbeats 4000000
namespace G
open PySem L2
section
variable {Γ : Gam} {X : Cx} {xc : Nat → Addr} {W : WX} {σ : St} {tab : Nat → Option (Fn Γ)} {c : Nat} {g : Fn Γ}
variable {a b e : Expr} {qa qb : Qe Γ} {pos : Pos}
end
end G

set_option maxHeartbeats 4000000
namespace G
open PySem L2
section
variable {Γ : Gam} {X : Cx} {xc : Nat → Addr} {W : WX} {σ : St} {c np k : Nat} {g : Fx Γ} {a b e : Expr} {es : List Expr} {as : List (XA Γ)} {pos : Pos}
/-- the == of class c, over graphs -/
structure EqX (Γ : Gam) (X : Cx) (xc : Nat → Addr) (c : Nat) (g : Fx Γ) : Prop where
  ex : ∃ C ns k f fd ps, Γ.cls c = some (C, ns) ∧ PySem.W.findIn X.K (.ref C) "__eq__" = some (some (.ref f)) ∧ PySem.W.isFn X.K (.ref f) = true ∧ FnOk X.prog X.w X.K X.mg X.base (L2.CX X.prog X.w) k f fd ps (spX Γ xc 2 g) ∧ Room (k + 1) X.A ∧ Binds X.K fd ps [] ∧
    PySem.W.findIn X.K (.ref C) "__ne__" = some (some (.builtin "object.__ne__")) ∧ PySem.W.mroIn X.K C (.type "object") = some true
structure EqXC (Γ : Gam) (P : Program) (w : World) (mg : Str → Option Value) (base : Heap) (xc : Nat → Addr) (c : Nat) (g : Fx Γ) (k : Nat) : Prop where
  ex : ∃ C ns f fd ps, Γ.cls c = some (C, ns) ∧ PySem.W.findIn Γ.K (.ref C) "__eq__" = some (some (.ref f)) ∧ PySem.W.isFn Γ.K (.ref f) = true ∧ FnOk P w Γ.K mg base (L2.CX P w) k f fd ps (spX Γ xc 2 g) ∧ Binds Γ.K fd ps [] ∧
    PySem.W.findIn Γ.K (.ref C) "__ne__" = some (some (.builtin "object.__ne__")) ∧ PySem.W.mroIn Γ.K C (.type "object") = some true
theorem EqXC.q {j : Nat} (hK : Γ.K = X.K) (h : EqXC Γ X.prog X.w X.mg X.base xc c g k) (hr : Room j X.A) (l : k + 1 ≤ j) : EqX Γ X xc c g := by
  obtain ⟨C, ns, f, fd, ps, h1, h2, h3, h4, h5, h6, h7⟩ := h
  exact ⟨C, ns, k, f, fd, ps, h1, hK ▸ h2, hK ▸ h3, hK ▸ h4, hr.mono l, hK ▸ h5, hK ▸ h6, hK ▸ h7⟩
structure IsGT (Γ : Gam) (X : Cx) (c : Nat) (x : Str) : Prop where
  ex : ∃ C ns, Γ.cls c = some (C, ns) ∧ X.mg x = some (.ref C) ∧ Cls X.K C ∧ PySem.W.findIn X.K (.ref C) "__class__" = some (some (.builtin "object.__class__")) ∧ PySem.W.specialIn X.K (.builtin "object.__class__") "__get__" = some (some (.builtin "getset_descriptor.__get__")) ∧
    PySem.W.takesIn X.K (.builtin "object.__class__") = some true ∧ PySem.W.mroIn X.K C (.type "object") = some true ∧ PySem.W.kitOne X.K (.ref C) (.ref C) = some true
structure IsGC (Γ : Gam) (mg : Str → Option Value) (c : Nat) (x : Str) : Prop where
  ex : ∃ C ns, Γ.cls c = some (C, ns) ∧ mg x = some (.ref C) ∧ Cls Γ.K C ∧ PySem.W.findIn Γ.K (.ref C) "__class__" = some (some (.builtin "object.__class__")) ∧ PySem.W.specialIn Γ.K (.builtin "object.__class__") "__get__" = some (some (.builtin "getset_descriptor.__get__")) ∧
    PySem.W.takesIn Γ.K (.builtin "object.__class__") = some true ∧ PySem.W.mroIn Γ.K C (.type "object") = some true ∧ PySem.W.kitOne Γ.K (.ref C) (.ref C) = some true
theorem IsGC.is {x : Str} (hK : Γ.K = X.K) (h : IsGC Γ X.mg c x) : IsGT Γ X c x := by
  obtain ⟨C, ns, h1, h2, h3, h4, h5, h6, h7, h8⟩ := h
  exact ⟨C, ns, h1, h2, hK ▸ h3, hK ▸ h4, hK ▸ h5, hK ▸ h6, hK ▸ h7, hK ▸ h8⟩
end
end G

set_option maxHeartbeats 4000000
namespace G
open PySem L2
section
variable {Γ : Gam} {X : Cx} {xc : Nat → Addr} {W : WX} {σ : St} {A : List Nat} {a b c e o : Expr} {es : List Expr} {as : List (XA Γ)} {qo qk q : Qe Γ} {pos apos cpos p3 : Pos}
end
end G

set_option maxHeartbeats 4000000
namespace G
open PySem L2
section
variable {Γ : Gam} {X : Cx} {xc : Nat → Addr} {W : WX} {σ : St} {A : List Nat} {a b c e o : Expr} {es : List Expr} {as : List (XA Γ)} {qo qk q qe : Qe Γ} {pos apos cpos p3 : Pos} {body : List Stmt} {t : Qt Γ} {u : Qs Γ}
end
end G

set_option maxHeartbeats 4000000
namespace G
open PySem PySem.Spec PyProof.Rows L2 ItX
section
variable {M : Model} {A : Around} {E : Value → Shared → Prop} {s : Shared} {K : PySem.W.Frag} {C f a : Addr} {ox : Obj} {od : Option Obj} {n : Int}
end
section
variable {X : Cx} {pins : List (Addr × Obj)} {σ : L2.St} {H : Hp} {s : Shared} {t q it : Addr} {A1 : Around} {Rs : Result → Shared → Prop} {zs : List V}
end
structure LiX (Γ : Gam) (X : Cx) (xc : Nat → Addr) (c : Nat) (fld : Str) (g : Fx Γ) : Prop where
  ex : ∃ C ns ki fi fdi psi kl fl fdl psl, Γ.cls c = some (C, ns) ∧ PySem.W.findIn X.K (.ref C) "__iter__" = some (some (.ref fi)) ∧ PySem.W.isFn X.K (.ref fi) = true ∧ ItLK X.prog X.w X.K X.mg X.base C fld ki fi fdi psi ∧ Room (ki + 3) X.A ∧ Binds X.K fdi psi [] ∧
    PySem.W.findIn X.K (.ref C) "__len__" = some (some (.ref fl)) ∧ PySem.W.isFn X.K (.ref fl) = true ∧ FnOk X.prog X.w X.K X.mg X.base (L2.CX X.prog X.w) kl fl fdl psl (spX Γ xc 1 g) ∧ Room (kl + 3) X.A ∧ Binds X.K fdl psl []
section
variable {Γ : Gam} {X : Cx} {xc : Nat → Addr} {c j k1 k2 : Nat} {g : Fx Γ} {fld : Str}
theorem LiX.of (hK : Γ.K = X.K) (h1 : IfXC Γ X.prog X.w X.mg X.base c fld k1) (h2 : SfXC Γ X.prog X.w X.mg X.base xc c "__len__" 1 g k2) (hr : Room j X.A) (l1 : k1 + 3 ≤ j) (l2 : k2 + 3 ≤ j) : LiX Γ X xc c fld g := by
  obtain ⟨C, ns, f, fd, ps, a1, a2, a3, a4, a5⟩ := h1
  obtain ⟨C', ns', f', fd', ps', b1, b2, b3, b4, b5⟩ := h2
  rw [a1] at b1
  cases b1
  exact ⟨C, ns, k1, f, fd, ps, k2, f', fd', ps', a1, hK ▸ a2, hK ▸ a3, hK ▸ a4, hr.mono l1, hK ▸ a5, hK ▸ b2, hK ▸ b3, hK ▸ b4, hr.mono l2, hK ▸ b5⟩
variable {W : WX} {x : Str} {p npos pos : Pos}
end
end G

set_option maxHeartbeats 4000000
namespace G
open PySem L2 PyProof.Rows
section
variable {Γ : Gam} {X : Cx} {e : Expr} {p1 p2 p3 p4 : Pos}
end
end G

set_option maxHeartbeats 4000000
namespace G
open PySem PySem.Spec PyProof.Rows L2
section
variable {prog : Program} {w : World} {A : Around} {E : Value → Shared → Prop} {s : Shared} {l : Addr} {xs : Array (Int × Tok)}
end
section
variable {Γ : Gam} {X : Cx}
end
end G

set_option maxHeartbeats 4000000
namespace BX
open PySem PySem.Spec PyProof.Rows L2 PySem.Calls PySem.W
section
variable {prog : Program} {w : World} {K : Type} [DecidableEq K] {knd : PySem.KeyKind prog w K} {A : Around} {E : Value → Shared → Prop} {s : Shared}
theorem call_dd {f : Value} {first : List Value} {pos : Pos} {M : Model} {Q : Value → Shared → Prop} {Z : Heap → Prop} {args : List (Bool × Sem Value)} {x : Sem Value} (hk : ∀ h, Z h → ∃ k, (k = Keeper.frame ∨ k = Keeper.machine ∨ k = Keeper.boundFrame) ∧ Looks M h (keeperOf f) k)
    (h : wpAny M A (evalArgs f true args [(none, x)]) (fun a s1 => Z s1.heap ∧ wpAny M A (call f (first ++ a.pos) a.kw) Q E s1) E s) : wpAny M A (callWith pos f first args [(none, x)]) Q E s := by
  unfold callWith
  refine wpAny_bind (wpAny_holding (wpAny_mono h (fun a s1 z1 => wpAny_bind (wpAny_standAt ?_)) fun _ _ z => z))
  obtain ⟨k, kk, L⟩ := hk _ z1.1
  have st : (args.any (·.1) || ([(none, x)] : List (Option Str × Sem Value)).any (·.1.isNone)) = true := by simp
  simp only [st]
  refine wpAny_bind (L.here ?_)
  have last : ∀ {t : Sem Value}, wpAny M A t Q E s1 → wpAny M A (t >>= fun r => holding [r] point >>= fun _ => pure r) Q E s1 :=
    fun ht => wpAny_bind (wpAny_mono ht (fun r s2 hr => wpAny_bind (wpAny_holding (wpAny_point (wpAny_pure hr)))) fun _ _ z => z)
  rcases kk with rfl | rfl | rfl
  · exact last (by unfold callMarked; exact Calls.wpAny_keep z1.2)
  · exact last (wpAny_operating z1.2)
  · exact last (wpAny_operating z1.2)
end
end BX

set_option maxHeartbeats 4000000
namespace BX
open PySem PySem.Spec PyProof.Rows L2 PySem.Calls PySem.W
section
variable {X : Cx} {CX : CXT} {k n i : Nat} {f C : Addr} {fd : FuncData} {ps ks : List Str} {sp : Sp} {E : XK} {x y : Str} {p np kp pos : Pos} {e : Expr} {es : List Expr} {t : TA} {g : List Value → List Value → List Value} {gV : List V → List V → List V}
end
end BX

set_option maxHeartbeats 4000000
namespace G
open PySem L2
section
variable {X : Cx} {CX : CXT} {k n i : Nat} {f C : Addr} {fd : FuncData} {ps ks : List Str} {sp : Sp} {E : XK} {x y : Str} {p np kp pos : Pos} {e : Expr} {es : List Expr} {σ : St} {H : Hp} {Q : VK}
end
section
variable {Γ : Gam} {X : Cx} {c np n j : Nat} {x y : Str} {g : Fn Γ} {as : List (AE Γ)} {e : Expr} {es : List Expr} {ks : List Str} {p npp kp pos : Pos}
end
end G

set_option maxHeartbeats 4000000
namespace BX
open PySem L2 RZ PyProof.Rows
/-- true: a tuple -/
def SqK (K : PySem.W.Frag) (k : Bool) (H : Hp) (a : Addr) (vs : List V) : Prop := if k then SqT K H a vs else SqL K H a vs
def ItK (k : Bool) (h : Heap) (it l : Addr) (i : Nat) : Prop := if k then h.IsTupleIter it l i else h.IsListIter it l i
def AtK (k : Bool) (h : Heap) (l : Addr) (us : Array Value) : Prop := if k then h.IsTuple l us else h.IsList l us
def obK (k : Bool) (l : Addr) : Obj := { cls := .type (if k then "tuple_iterator" else "list_iterator"), data := .fields #[.ref l, .int 0 0] }
theorem ItK.new {k : Bool} {h : Heap} {it l : Addr} (e : h.get? it = some (obK k l)) : ItK k h it l 0 := by
  cases k
  · exact ⟨_, e, rfl, rfl⟩
  · exact ⟨_, e, rfl, rfl⟩
theorem ItK.ob {k : Bool} {h : Heap} {it l : Addr} {i : Nat} (e : ItK k h it l i) : ∃ o, h.get? it = some o ∧ ∃ vs, o.data = .fields vs := by
  cases k
  · obtain ⟨o, e1, _, d⟩ := e
    exact ⟨o, e1, _, d⟩
  · obtain ⟨o, e1, _, d⟩ := e
    exact ⟨o, e1, _, d⟩
section
variable {X : Cx} {pins : List (Addr × Obj)} {σ : L2.St} {H : Hp} {s : Shared} {a : Addr} {xs ys : List V}
theorem SqK.got {k : Bool} (I : Inv X pins σ H s) (h : SqK X.K k H a xs) : ∃ us : List Value, Vals xs us ∧ AtK k s.heap a us.toArray ∧ a < s.heap.objs.size := by
  cases k
  · obtain ⟨us, r, p, _⟩ := I.list h
    exact ⟨us, r, p.isList, p.lt⟩
  · obtain ⟨us, r, p, _⟩ := I.tuple h
    obtain ⟨o, ho, _⟩ := id p
    exact ⟨us, r, p, Heap.lt_size ho⟩
theorem SqK.one {k : Bool} (I : Inv X pins σ H s) (h1 : SqK X.K k H a xs) (h2 : SqK X.K k H a ys) : xs = ys := by
  cases k
  · exact I.list_inj h1 h2
  · exact I.tuple_inj h1 h2
end
end BX

set_option maxHeartbeats 4000000
namespace G
open PySem L2
section
variable {Γ : Gam} {X : Cx} {a b : Expr} {f g : Ev Γ} {pos : Pos}
end
end G

set_option maxHeartbeats 4000000
namespace G
open PySem PySem.Spec PyProof.Rows L2 ItX
section
variable {X : Cx}
end
structure ItTK (P : Program) (w : World) (K : PySem.W.Frag) (mg : Str → Option Value) (base : Heap) (C : Addr) (fld : Str) (k : Nat) (f : Addr) (fd : FuncData) (ps : List Str) : Prop where
  len : ps.length = 1
  run : ∀ (A : Around) (outer : List PySem.Env) (s : Shared) (H : Hp) (args : Args) (a dx : Addr) (fs : List (Str × V)) (t : Addr) (zs : List V) (Q : VK), Room k A → Env0 P w K mg base A outer s H → BindsTo s fd args (ps.zip [.ref a]) →
    H a = some (.ins C dx fs) → fs.lookup fld = some (.ref t) → SqT K H t zs → (∀ it, H it = none → s.heap.objs.size ≤ it → Q (.ref it) (upd H it (ItT it t 0))) → codeAny (model P w) A (.call (.ref f) args) (CR (L2.CX P w) outer P w H s Q E0) s
section
variable {P : Program} {w : World} {K : PySem.W.Frag} {mg : Str → Option Value} {base : Heap}
end
section
variable {X : Cx} {tg : Expr} {k n : Nat} {x fld : Str} {p : Pos} {C f : Addr} {fd : FuncData} {ps : List Str}
end
structure ItfD (Γ : Gam) (X : Cx) (c : Nat) (fld : Str) : Prop where
  ex : ∃ C ns k f fd ps, Γ.cls c = some (C, ns) ∧ PySem.W.findIn X.K (.ref C) "__iter__" = some (some (.ref f)) ∧ PySem.W.isFn X.K (.ref f) = true ∧ ItTK X.prog X.w X.K X.mg X.base C fld k f fd ps ∧ Room k X.A ∧ Binds X.K fd ps []
structure ItfC (Γ : Gam) (P : Program) (w : World) (mg : Str → Option Value) (base : Heap) (c : Nat) (fld : Str) (k : Nat) : Prop where
  ex : ∃ C ns f fd ps, Γ.cls c = some (C, ns) ∧ PySem.W.findIn Γ.K (.ref C) "__iter__" = some (some (.ref f)) ∧ PySem.W.isFn Γ.K (.ref f) = true ∧ ItTK P w Γ.K mg base C fld k f fd ps ∧ Binds Γ.K fd ps []
section
variable {Γ : Gam} {X : Cx} {x fld : Str} {p : Pos} {c k j : Nat} {tg : Expr}
theorem ItfC.i (hK : Γ.K = X.K) (h : ItfC Γ X.prog X.w X.mg X.base c fld k) (hr : Room j X.A) (hj : k ≤ j) : ItfD Γ X c fld := by
  obtain ⟨C, ns, f, fd, ps, h1, h2, h3, h4, h5⟩ := h
  exact ⟨C, ns, k, f, fd, ps, h1, hK ▸ h2, hK ▸ h3, hK ▸ h4, hr.mono hj, hK ▸ h5⟩
end
end G

set_option maxHeartbeats 4000000
namespace G
open PySem L2
section
variable {Γ : Gam} {X : Cx} {a b : Expr} {f : Ev Γ} {fb : AE Γ} {pos : Pos}
structure ClT (X : Cx) (x f : Str) (s : Str) : Prop where
  ex : ∃ C mc t, X.mg x = some (.ref C) ∧ ClX.CRead X.K C mc ∧ PySem.W.findCls X.K (.ref C) mc f = some (.val (.str s t))
structure ClTCa (Γ : Gam) (mg : Str → Option Value) (x f : Str) (s : Str) : Prop where
  ex : ∃ C mc t, mg x = some (.ref C) ∧ ClX.CRead Γ.K C mc ∧ PySem.W.findCls Γ.K (.ref C) mc f = some (.val (.str s t))
theorem ClTCa.cl {x f s : Str} (hK : Γ.K = X.K) (h : ClTCa Γ X.mg x f s) : ClT X x f s := by
  obtain ⟨C, mc, t, h1, h2, h3⟩ := h
  exact ⟨C, mc, t, h1, hK ▸ h2, hK ▸ h3⟩
end
end G

set_option maxHeartbeats 4000000
namespace G
open PySem L2
section
variable {Γ : Gam} {X : Cx} {xc : Nat → Addr} {W : WX} {σ : St} {e : Expr} {pos : Pos}
inductive DispL (Γ : Gam) (X : Cx) : List (Option Expr) → List Expr → List (Str × Ev Γ) → Prop
  | nil : DispL Γ X [] [] []
  | cons {k : Str} {j : Nat} {p : Pos} {e : Expr} {f : Ev Γ} {ks : List (Option Expr)} {es : List Expr} {l : List (Str × Ev Γ)} : SdE Γ X e f → DispL Γ X ks es l → DispL Γ X (some (.Constant (.str k) j p) :: ks) (e :: es) ((k, f) :: l)
/-- the pairs' runs -/
inductive TrsK (X : Cx) : List (Option Expr) → List Expr → List (TE × TE) → Prop
  | nil : TrsK X [] [] []
  | cons {k : Str} {j : Nat} {p : Pos} {e : Expr} {ks : List (Option Expr)} {es : List Expr} {trs : List (TE × TE)} : TrsK X ks es trs → TrsK X (some (.Constant (.str k) j p) :: ks) (e :: es) ((tC (.str k), wE X e) :: trs)
theorem TrsK.len : ∀ {ks : List (Option Expr)} {es : List Expr} {trs : List (TE × TE)}, TrsK X ks es trs → ks.length = es.length ∧ ks.all (·.isSome) = true
  | _, _, _, .nil => ⟨rfl, rfl⟩
  | _, _, _, .cons r => by
    obtain ⟨h1, h2⟩ := r.len
    refine ⟨by rw [List.length_cons, List.length_cons, h1], ?_⟩
    rw [List.all_cons, h2]
    rfl
theorem DispL.trs : ∀ {ks : List (Option Expr)} {es : List Expr} {l : List (Str × Ev Γ)}, DispL Γ X ks es l → ∃ trs, TrsK X ks es trs ∧ l.length = ks.length
  | _, _, _, .nil => ⟨[], .nil, rfl⟩
  | _, _, _, .cons _ r => by
    obtain ⟨t, h, e⟩ := r.trs
    exact ⟨_, .cons h, by rw [List.length_cons, List.length_cons, e]⟩
end
end G

set_option maxHeartbeats 4000000
namespace G
open PySem L2
section
variable {Γ : Gam} {X : Cx} {xc : Nat → Addr} {W : WX} {σ : St} {e : Expr} {pos : Pos}
inductive DispXL (Γ : Gam) (X : Cx) (xc : Nat → Addr) (W : WX) : List (Option Expr) → List Expr → List (Str × Qe Γ) → Prop
  | nil : DispXL Γ X xc W [] [] []
  | cons {k : Str} {j : Nat} {p : Pos} {e : Expr} {q : Qe Γ} {ks : List (Option Expr)} {es : List Expr} {l : List (Str × Qe Γ)} : SdX Γ X xc W e q → DispXL Γ X xc W ks es l → DispXL Γ X xc W (some (.Constant (.str k) j p) :: ks) (e :: es) ((k, q) :: l)
theorem DispXL.trs : ∀ {ks : List (Option Expr)} {es : List Expr} {l : List (Str × Qe Γ)}, DispXL Γ X xc W ks es l → ∃ trs, TrsK X ks es trs ∧ l.length = ks.length
  | _, _, _, .nil => ⟨[], .nil, rfl⟩
  | _, _, _, .cons _ r => by
    obtain ⟨t, h, e⟩ := r.trs
    exact ⟨_, .cons h, by rw [List.length_cons, List.length_cons, e]⟩
/-- a new list comes to the things that hang together -/
theorem TR.more {w : Wd} {p a : Addr} {gr : Gr} {ds : List D} {Fr Fa : Addr → Prop} (T : TR Γ w (.ref p) (.obj (.gra p gr)) Fr) (T2 : TR Γ w (.ref a) (.lst ds) Fa) : TR Γ w (.ref p) (.obj (.gra p (gr.put a (.lst ds)))) fun b => Fr b ∨ Fa b := by
  obtain ⟨_, cells, n⟩ := T.rep
  obtain ⟨a', vs, ea, hp, r, na⟩ := T2.rep
  cases ea
  refine ⟨⟨rfl, fun b c z => ?_, fun b => ?_⟩, fun b z => z.elim (T.sub b) (T2.sub b), fun b i z => z.elim (T.off b i) (T2.off b i)⟩
  · by_cases y : b = a
    · subst y
      rw [put_same] at z
      cases z
      exact ⟨vs, hp, r⟩
    · rw [put_ne y] at z
      exact cells b c z
  · by_cases y : b = a
    · subst y
      rw [put_same]
      exact ⟨fun _ => nofun, fun _ => .inr ((na b).mpr rfl)⟩
    · rw [put_ne y]
      refine ⟨fun z => ?_, fun z => .inl ((n b).mpr z)⟩
      rcases z with z | z
      · exact (n b).mp z
      · exact absurd ((na b).mp z) y
end
end G

set_option maxHeartbeats 4000000
namespace G
open PySem L2
section
variable {X : Cx} {o : Expr} {f : Str} {pos : Pos} {ta : TE}
end
section
variable {Γ : Gam} {X : Cx} {A : List Nat} {pos : Pos}
end
end G

set_option maxHeartbeats 4000000
namespace G
open PySem PySem.Spec PyProof.Rows L2
section
variable {X : Cx}
end
section
variable {Γ : Gam} {X : Cx} {A : List Nat}
end
end G

set_option maxHeartbeats 4000000
namespace G
open PySem L2
theorem ARs.len {Γ : Gam} {w : Wd} {σ : St} : ∀ {vs : List V} {xs : List (Ag Γ)} {Frs : List (Addr → Prop)}, ARs Γ w σ vs xs Frs → vs.length = xs.length
  | _, _, _, .nil => rfl
  | _, _, _, .cons _ _ r => by rw [List.length_cons, List.length_cons, ARs.len r]
section
variable {Γ : Gam} {X : Cx} {c np j k : Nat} {m : Str} {g : Fn Γ} {pre : List D} {as : List (AE Γ)} {e : Expr} {es : List Expr} {npos apos pos : Pos}
end
end G

set_option maxHeartbeats 4000000
namespace G
open PySem L2
section
variable {Γ : Gam} {X : Cx} {xc : Nat → Addr} {W : WX} {σ : St} {A : List Nat} {a b c e o : Expr} {p q r qo qv qk : Qe Γ} {pos : Pos}
end
end G

set_option maxHeartbeats 4000000
namespace G
open PySem L2
section
variable {X : Cx} {CX : CXT} {k n i : Nat} {f C : Addr} {fd : FuncData} {ps : List Str} {sp : Sp} {E : XK} {x : Str} {p pos : Pos} {e : Expr} {es : List Expr} {σ : St} {H : Hp} {Q : VK}
end
section
variable {Γ : Gam} {X : Cx} {xc : Nat → Addr} {W : WX} {σ : St} {e : Expr} {es : List Expr} {as : List (XA Γ)} {pos : Pos}
def rzA (gr : Gr) : Ag Γ → Ag Γ
  | .val (.dat (.raw a)) => match gr a with
    | some (.lst ds) => .val (.dat (.lst ds))
    | _ => .val (.dat (.raw a))
  | x => x
theorem ARs.frz {w1 : Wd} {env1 : Env Γ} {g : Nat} {root : Addr} {gr : Gr} (E1 : ER Γ w1 σ env1) (h : env1[g]? = some (.obj (.gra root gr))) : ∀ {vs : List V} {xs : List (Ag Γ)} {Frs : List (Addr → Prop)}, ARs Γ w1 σ vs xs Frs →
    ARs Γ ⟨fun a => w1.M a ∧ gr a = none, fun j a => if j = g then False else w1.F j a, w1.H⟩ σ vs (xs.map (rzA gr)) Frs
  | _, _, _, .nil => .nil
  | _, _, _, .cons (v := v) (a := x) (Fr := Fr) hx d r => by
    refine .cons ?_ d (ARs.frz E1 h r)
    obtain ⟨ev, cells, hF⟩ := E1.gra h
    have go : Go w1.M w1.H (fun a => w1.M a ∧ gr a = none) w1.H := ⟨fun _ _ _ q => q, fun _ n _ z => n z.1⟩
    have val : ∀ {s : Sl Γ}, TR Γ w1 v s Fr → TR Γ ⟨fun a => w1.M a ∧ gr a = none, fun j a => if j = g then False else w1.F j a, w1.H⟩ v s Fr := fun T =>
      ⟨T.rep.to go rfl, fun a z => ⟨T.sub a z, Classical.byContradiction fun y => T.off a g z ((hF a).mpr y)⟩, fun a j z y => by
        have y' : (if j = g then False else w1.F j a) := y
        split at y'
        · exact y'
        · exact T.off a j z y'⟩
    cases x with
    | brw j => exact hx
    | val s =>
      have T : TR Γ w1 v s Fr := hx
      have T2 := val T
      cases s with
      | dat dd =>
        cases dd with
        | raw a =>
          show AR Γ _ σ v (match gr a with | some (.lst ds) => .val (.dat (.lst ds)) | _ => .val (.dat (.raw a))) Fr
          cases q : gr a with
          | none => exact T2
          | some c =>
            cases c with
            | lst ds =>
              obtain ⟨dv, nF⟩ := T.rep
              cases dv
              obtain ⟨us, hp, r⟩ := cells a _ q
              exact (show TR Γ _ (.ref a) (.dat (.lst ds)) Fr from ⟨⟨.lst (fun z => by have := z.2; rw [q] at this; cases this) hp (r.go go), nF⟩, T2.sub, T2.off⟩)
            | _ => exact T2
        | _ => exact T2
      | _ => exact T2
end
end G

set_option maxHeartbeats 4000000
namespace G
open PySem L2
section
variable {Γ : Gam} {X : Cx} {xc : Nat → Addr} {W : WX} {σ : St} {pos : Pos} {c np : Nat} {g : Fx Γ} {pre : List D}
end
section
variable {Γ : Gam} {X : Cx} {xc : Nat → Addr} {A : List Nat} {c : Nat} {x1 : Str} {c1 : Value} {body : List Stmt} {f : Es Γ} {z : Ez Γ} {np1 hp1 tpos sp rp : Pos} {b : Bool}
end
end G

set_option maxHeartbeats 4000000
namespace G
open PySem L2
section
variable {Γ : Gam} {X : Cx}
structure EqWT (Γ : Gam) (X : Cx) (tab : Nat → Option (Fn Γ)) (tys : List String) : Prop where
  ex : ∀ c g, tab c = some g → ∃ C ns k f fd ps, Γ.cls c = some (C, ns) ∧ PySem.W.findIn X.K (.ref C) "__eq__" = some (some (.ref f)) ∧ PySem.W.isFn X.K (.ref f) = true ∧ FnOk X.prog X.w X.K X.mg X.base CX0 k f fd ps (spG Γ 2 g) ∧ Room k X.A ∧ Binds X.K fd ps [] ∧ ∀ t ∈ tys, t ≠ "dict" ∧ PySem.W.notFirst X.K C (.type t) = true
structure EqWCa (Γ : Gam) (P : Program) (w : World) (mg : Str → Option Value) (base : Heap) (tab : Nat → Option (Fn Γ)) (tys : List String) (k : Nat) : Prop where
  ex : ∀ c g, tab c = some g → ∃ C ns f fd ps, Γ.cls c = some (C, ns) ∧ PySem.W.findIn Γ.K (.ref C) "__eq__" = some (some (.ref f)) ∧ PySem.W.isFn Γ.K (.ref f) = true ∧ FnOk P w Γ.K mg base CX0 k f fd ps (spG Γ 2 g) ∧ Binds Γ.K fd ps [] ∧ ∀ t ∈ tys, t ≠ "dict" ∧ PySem.W.notFirst Γ.K C (.type t) = true
theorem EqWCa.q {tab : Nat → Option (Fn Γ)} {tys : List String} {k j : Nat} (hK : Γ.K = X.K) (h : EqWCa Γ X.prog X.w X.mg X.base tab tys k) (hr : Room j X.A) (l : k ≤ j) : EqWT Γ X tab tys := ⟨fun c g e => by
  obtain ⟨C, ns, f, fd, ps, h1, h2, h3, h4, h5, h6⟩ := h.ex c g e
  exact ⟨C, ns, k, f, fd, ps, h1, hK ▸ h2, hK ▸ h3, hK ▸ h4, hr.mono l, hK ▸ h5, hK ▸ h6⟩⟩
variable {σ : St} {env env' : Env Γ} {w : Wd} {a b : Expr} {pos : Pos} {tab : Nat → Option (Fn Γ)} {tys : List String} {fa fb : AE Γ}
structure IsW (Γ : Gam) (X : Cx) (tab : Nat → Option Bool) (tys : List String) (x : Str) : Prop where
  ex : ∃ CB, X.mg x = some (.ref CB) ∧ (∀ t ∈ tys, PySem.W.kitOne X.K (.type t) (.ref CB) = some false) ∧ ∀ c b, tab c = some b → ∃ C ns, Γ.cls c = some (C, ns) ∧ Cls X.K C ∧ PySem.W.findIn X.K (.ref C) "__class__" = some (some (.builtin "object.__class__")) ∧ PySem.W.specialIn X.K (.builtin "object.__class__") "__get__" = some (some (.builtin "getset_descriptor.__get__")) ∧
    PySem.W.takesIn X.K (.builtin "object.__class__") = some true ∧ PySem.W.mroIn X.K C (.type "object") = some true ∧ PySem.W.kitOne X.K (.ref C) (.ref CB) = some b
structure IsWC (Γ : Gam) (mg : Str → Option Value) (tab : Nat → Option Bool) (tys : List String) (x : Str) : Prop where
  ex : ∃ CB, mg x = some (.ref CB) ∧ (∀ t ∈ tys, PySem.W.kitOne Γ.K (.type t) (.ref CB) = some false) ∧ ∀ c b, tab c = some b → ∃ C ns, Γ.cls c = some (C, ns) ∧ Cls Γ.K C ∧ PySem.W.findIn Γ.K (.ref C) "__class__" = some (some (.builtin "object.__class__")) ∧ PySem.W.specialIn Γ.K (.builtin "object.__class__") "__get__" = some (some (.builtin "getset_descriptor.__get__")) ∧
    PySem.W.takesIn Γ.K (.builtin "object.__class__") = some true ∧ PySem.W.mroIn Γ.K C (.type "object") = some true ∧ PySem.W.kitOne Γ.K (.ref C) (.ref CB) = some b
theorem IsWC.is {tabB : Nat → Option Bool} {x : Str} (hK : Γ.K = X.K) (h : IsWC Γ X.mg tabB tys x) : IsW Γ X tabB tys x := by
  obtain ⟨CB, h1, h2, h3⟩ := h
  exact ⟨CB, h1, hK ▸ h2, fun c b e => by
    obtain ⟨C, ns, q1, q2, q3, q4, q5, q6, q7⟩ := h3 c b e
    exact ⟨C, ns, q1, hK ▸ q2, hK ▸ q3, hK ▸ q4, hK ▸ q5, hK ▸ q6, hK ▸ q7⟩⟩
end
end G

set_option maxHeartbeats 4000000
namespace G
open PySem L2
def gNsK : List Nat → TGs
  | [] => gNil
  | i :: is => gCons (gName i) (gNsK is)
section
variable {Γ : Gam} {X : Cx} {A : List Nat} {pos : Pos}
inductive NmL (X : Cx) (A : List Nat) : List Expr → List Nat → Prop
  | nil : NmL X A [] []
  | cons {x : Str} {p : Pos} {i : Nat} {es : List Expr} {is : List Nat} : i ∈ A → X.N[i]? = some x → Loc X.env.scope x → (X.fn x = true ∨ X.env.scope.names.lookup x = some .local) →
      ((assignEach (.Name x p :: es) X.env).map (·.2) = assign (.Name x p) X.env :: (assignEach es X.env).map (·.2)) → NmL X A es is → NmL X A (.Name x p :: es) (i :: is)
theorem NmL.pgs (hN : X.N.Nodup) : ∀ {es : List Expr} {is : List Nat}, NmL X A es is → PGs X es (gNsK is)
  | _, _, .nil => pgs_nil
  | _, _, .cons _ h2 h3 h4 h5 r => pgs_cons (pg_name hN h2 h3 h4) (r.pgs hN) h5
end
end G

set_option maxHeartbeats 4000000
namespace G
open PySem L2
structure DfXo (Γ : Gam) (X : Cx) (xc : Nat → Addr) (x : Str) (np : Nat) (g : Fx Γ) : Prop where
  ex : ∃ k f fd ps, FnOk X.prog X.w X.K X.mg X.base (L2.CX X.prog X.w) k f fd ps (spX Γ xc np g) ∧ Room k X.A ∧ X.mg x = some (.ref f) ∧ PySem.W.keepIn X.K (.ref f) = true ∧ Binds X.K fd ps []
structure CaXo (Γ : Gam) (P : Program) (w : World) (mg : Str → Option Value) (base : Heap) (xc : Nat → Addr) (x : Str) (np : Nat) (g : Fx Γ) (k : Nat) : Prop where
  ex : ∃ f fd ps, FnOk P w Γ.K mg base (L2.CX P w) k f fd ps (spX Γ xc np g) ∧ mg x = some (.ref f) ∧ PySem.W.keepIn Γ.K (.ref f) = true ∧ Binds Γ.K fd ps []
section
variable {Γ : Gam} {X : Cx} {xc : Nat → Addr} {W : WX} {σ : St} {pos : Pos}
theorem CaXo.df {x : Str} {np : Nat} {g : Fx Γ} {k j : Nat} (hK : Γ.K = X.K) (c : CaXo Γ X.prog X.w X.mg X.base xc x np g k) (hr : Room j X.A) (h : k ≤ j) : DfXo Γ X xc x np g := by
  obtain ⟨f, fd, ps, h1, h2, h3, h4⟩ := c
  exact ⟨k, f, fd, ps, hK ▸ h1, hr.mono h, h2, hK ▸ h3, hK ▸ h4⟩
end
end G

set_option maxHeartbeats 4000000
namespace G
open PySem PySem.Spec PyProof.Rows L2
section
variable {P : Program} {w : World} {K : PySem.W.Frag} {mg : Str → Option Value} {base : Heap}
end
section
variable {Γ : Gam} {P : Program} {w : World} {mg : Str → Option Value} {base : Heap} {xc : Nat → Addr}
end
end G

set_option maxHeartbeats 4000000
namespace G
open PySem L2
section
variable {Γ : Gam} {X : Cx} {A : List Nat} {e bb : Expr} {body : List Stmt} {fe fb : Ev Γ} {g : Es Γ} {pos : Pos}
end
end G

set_option maxHeartbeats 4000000
namespace G
open PySem L2
section
variable {Γ : Gam} {X : Cx} {xc : Nat → Addr} {W : WX}
end
end G

set_option maxHeartbeats 4000000
namespace G
open PySem L2
section
variable {Γ : Gam} {X : Cx}
variable {a b : Expr} {f : Ev Γ} {fb : AE Γ} {apos pos : Pos}
end
end G

set_option maxHeartbeats 4000000
namespace G
open PySem L2
section
variable {X : Cx} {CX : CXT} {k : Nat} {f C : Addr} {fd : FuncData} {ps : List Str} {sp : Sp} {E : St → XK} {a b : Expr} {ta tb : TE} {pos : Pos}
end
/-- an own __getitem__, told once for all callers -/
structure GtCa (Γ : Gam) (P : Program) (w : World) (mg : Str → Option Value) (base : Heap) (c : Nat) (g : Fn Γ) (k : Nat) : Prop where
  ex : ∃ C ns f fd ps, Γ.cls c = some (C, ns) ∧ PySem.W.findIn Γ.K (.ref C) "__getitem__" = some (some (.ref f)) ∧ PySem.W.fnIn Γ.K f = true ∧ PySem.W.isFn Γ.K (.ref f) = true ∧ FnOk P w Γ.K mg base CX0 k f fd ps (spG Γ 2 g) ∧ Binds Γ.K fd ps []
structure GtC (Γ : Gam) (X : Cx) (c : Nat) (g : Fn Γ) : Prop where
  ex : ∃ C ns k f fd ps, Γ.cls c = some (C, ns) ∧ PySem.W.findIn X.K (.ref C) "__getitem__" = some (some (.ref f)) ∧ PySem.W.fnIn X.K f = true ∧ PySem.W.isFn X.K (.ref f) = true ∧ FnOk X.prog X.w X.K X.mg X.base CX0 k f fd ps (spG Γ 2 g) ∧ Room (k + 1) X.A ∧ Binds X.K fd ps []
theorem GtCa.g {Γ : Gam} {X : Cx} {c k j : Nat} {g : Fn Γ} (hK : Γ.K = X.K) (h : GtCa Γ X.prog X.w X.mg X.base c g k) (hr : Room j X.A) (l : k + 1 ≤ j) : GtC Γ X c g := by
  obtain ⟨C, ns, f, fd, ps, h1, h2, h3, h4, h5, h6⟩ := h
  exact ⟨C, ns, k, f, fd, ps, h1, hK ▸ h2, hK ▸ h3, hK ▸ h4, hK ▸ h5, hr.mono l, hK ▸ h6⟩
structure GzCa (Γ : Gam) (P : Program) (w : World) (mg : Str → Option Value) (base : Heap) (xc : Nat → Addr) (c : Nat) (gz : Fz Γ) (k : Nat) : Prop where
  ex : ∃ C ns f fd ps, Γ.cls c = some (C, ns) ∧ PySem.W.findIn Γ.K (.ref C) "__getitem__" = some (some (.ref f)) ∧ PySem.W.fnIn Γ.K f = true ∧ PySem.W.isFn Γ.K (.ref f) = true ∧ FnOk P w Γ.K mg base (L2.CX P w) k f fd ps (spZ Γ xc 2 gz) ∧ Binds Γ.K fd ps []
structure GzC (Γ : Gam) (X : Cx) (xc : Nat → Addr) (c : Nat) (gz : Fz Γ) : Prop where
  ex : ∃ C ns k f fd ps, Γ.cls c = some (C, ns) ∧ PySem.W.findIn X.K (.ref C) "__getitem__" = some (some (.ref f)) ∧ PySem.W.fnIn X.K f = true ∧ PySem.W.isFn X.K (.ref f) = true ∧ FnOk X.prog X.w X.K X.mg X.base (L2.CX X.prog X.w) k f fd ps (spZ Γ xc 2 gz) ∧ Room (k + 1) X.A ∧ Binds X.K fd ps []
theorem GzCa.g {Γ : Gam} {X : Cx} {xc : Nat → Addr} {c k j : Nat} {gz : Fz Γ} (hK : Γ.K = X.K) (h : GzCa Γ X.prog X.w X.mg X.base xc c gz k) (hr : Room j X.A) (l : k + 1 ≤ j) : GzC Γ X xc c gz := by
  obtain ⟨C, ns, f, fd, ps, h1, h2, h3, h4, h5, h6⟩ := h
  exact ⟨C, ns, k, f, fd, ps, h1, hK ▸ h2, hK ▸ h3, hK ▸ h4, hK ▸ h5, hr.mono l, hK ▸ h6⟩
section
variable {Γ : Gam} {X : Cx} {xc : Nat → Addr} {W : WX} {b : Expr} {fb : AE Γ} {pos npos : Pos} {c : Nat} {x : Str}
end
end G

set_option maxHeartbeats 4000000
namespace G
open PySem L2
structure LnCa (Γ : Gam) (P : Program) (w : World) (mg : Str → Option Value) (base : Heap) (c : Nat) (g : Fn Γ) (k : Nat) : Prop where
  ex : ∃ C ns f fd ps, Γ.cls c = some (C, ns) ∧ PySem.W.findIn Γ.K (.ref C) "__len__" = some (some (.ref f)) ∧ PySem.W.isFn Γ.K (.ref f) = true ∧ FnOk P w Γ.K mg base CX0 k f fd ps (spG Γ 1 g) ∧ Binds Γ.K fd ps []
structure LnC (Γ : Gam) (X : Cx) (c : Nat) (g : Fn Γ) : Prop where
  ex : ∃ C ns k f fd ps, Γ.cls c = some (C, ns) ∧ PySem.W.findIn X.K (.ref C) "__len__" = some (some (.ref f)) ∧ PySem.W.isFn X.K (.ref f) = true ∧ FnOk X.prog X.w X.K X.mg X.base CX0 k f fd ps (spG Γ 1 g) ∧ Room (k + 1) X.A ∧ Binds X.K fd ps []
theorem LnCa.g {Γ : Gam} {X : Cx} {c k j : Nat} {g : Fn Γ} (hK : Γ.K = X.K) (h : LnCa Γ X.prog X.w X.mg X.base c g k) (hr : Room j X.A) (l : k + 1 ≤ j) : LnC Γ X c g := by
  obtain ⟨C, ns, f, fd, ps, h1, h2, h4, h5, h6⟩ := h
  exact ⟨C, ns, k, f, fd, ps, h1, hK ▸ h2, hK ▸ h4, hK ▸ h5, hr.mono l, hK ▸ h6⟩
section
variable {Γ : Gam} {X : Cx} {a : Expr} {f : Ev Γ} {g : Fn Γ} {c : Nat} {pos : Pos}
end
end G

set_option maxHeartbeats 4000000
namespace G
open PySem L2
section
variable {Γ : Gam} {X : Cx} {xc : Nat → Addr} {A : List Nat} {c : Nat} {fld nm due x1 : Str} {c1 : Value} {body : List Stmt} {f : Es Γ} {z : Ez Γ} {np1 hp1 tpos nnp ap q4 q5 sp : Pos}
end
end G

set_option maxHeartbeats 4000000
namespace G
open PySem L2
section
variable {Γ : Gam} {X : Cx} {xc : Nat → Addr} {W : WX} {σ : St} {pos : Pos}
end
end G

set_option maxHeartbeats 4000000
namespace G
open PySem L2
section
variable {Γ : Gam} {X : Cx}
end
end G

set_option maxHeartbeats 4000000
namespace G
open PySem L2
section
variable {Γ : Gam} {X : Cx} {A : List Nat} {e : Expr} {pos : Pos}
theorem FdRs.at {M : Addr → Prop} {H : Hp} {f : Str} {d : D} : ∀ {vs : List (Str × V)} {fs : List (Str × Fd)} {G : Addr → Prop}, FdRs Γ M H vs fs G → fs.lookup f = some (.dat d) → ∃ v, vs.lookup f = some v ∧ Dat Γ M H v d
  | _, _, _, .nil _, e => by cases e
  | _, _, _, .cons (n := n) h r dj eq, e => by
    rw [List.lookup_cons] at e ⊢
    cases hn : (f == n) with
    | true => rw [hn] at e; cases e; exact ⟨_, rfl, h.1⟩
    | false => rw [hn] at e; exact FdRs.at r e
end
end G

set_option maxHeartbeats 4000000
namespace G
open PySem L2
section
variable {Γ : Gam} {X : Cx} {A : List Nat}
end
end G

set_option maxHeartbeats 4000000
namespace G
open PySem L2
section
variable {Γ : Gam} {X : Cx} {xc : Nat → Addr} {A : List Nat} {W : WX} {e o : Expr} {es : List Expr} {z : Ez Γ} {a : AE Γ} {as : List (AE Γ)} {p pos apos npos : Pos} {x m : Str} {c np n : Nat} {g : Fn Γ} {gz : Fz Γ}
end
end G

set_option maxHeartbeats 4000000
namespace G
open PySem L2
section
variable {X : Cx} {CX : CXT} {pins : List (Addr × Obj)} {σ : St} {H : Hp} {s : Shared} {a f2 q : Addr} {fd : FuncData} {ps : List Str} {sp : Sp} {k : Nat} {E : XK} {Q : VK} {us ds : List Value} {vs dvs : List V} {p3 : Pos}
end
section
variable {Γ : Gam} {X : Cx} {b0 : List Stmt} {c np k j : Nat} {D : Addr} {m : Str} {g : Fn Γ} {d : G.D} {p0 p1 p2 p3 : Pos}
end
section
variable {Γ : Gam} {X : Cx} {xc : Nat → Addr} {A : List Nat} {c : Nat} {fld nm due x1 : Str} {c1 : Value} {body : List Stmt} {f : Es Γ} {z : Ez Γ} {np1 hp1 tpos nnp nnp2 ap ap2 q1 q2 q3 q4 q5 q6 q7 q8 q9 sp : Pos} {j0 : Nat}
end
end G

set_option maxHeartbeats 4000000
namespace G
open PySem L2
structure IsQ (Γ : Gam) (X : Cx) (tab : Nat → Option Bool) (x : Str) : Prop where
  ex : ∃ CB, X.mg x = some (.ref CB) ∧ ∀ c b, tab c = some b → ∃ C ns, Γ.cls c = some (C, ns) ∧ Cls X.K C ∧ PySem.W.findIn X.K (.ref C) "__class__" = some (some (.builtin "object.__class__")) ∧ PySem.W.specialIn X.K (.builtin "object.__class__") "__get__" = some (some (.builtin "getset_descriptor.__get__")) ∧
    PySem.W.takesIn X.K (.builtin "object.__class__") = some true ∧ PySem.W.mroIn X.K C (.type "object") = some true ∧ PySem.W.kitOne X.K (.ref C) (.ref CB) = some b
structure IsQC (Γ : Gam) (mg : Str → Option Value) (tab : Nat → Option Bool) (x : Str) : Prop where
  ex : ∃ CB, mg x = some (.ref CB) ∧ ∀ c b, tab c = some b → ∃ C ns, Γ.cls c = some (C, ns) ∧ Cls Γ.K C ∧ PySem.W.findIn Γ.K (.ref C) "__class__" = some (some (.builtin "object.__class__")) ∧ PySem.W.specialIn Γ.K (.builtin "object.__class__") "__get__" = some (some (.builtin "getset_descriptor.__get__")) ∧
    PySem.W.takesIn Γ.K (.builtin "object.__class__") = some true ∧ PySem.W.mroIn Γ.K C (.type "object") = some true ∧ PySem.W.kitOne Γ.K (.ref C) (.ref CB) = some b
section
variable {Γ : Gam} {X : Cx} {pos : Pos}
theorem IsQC.is {tab : Nat → Option Bool} {x : Str} (hK : Γ.K = X.K) (h : IsQC Γ X.mg tab x) : IsQ Γ X tab x := by
  obtain ⟨CB, h1, h3⟩ := h
  exact ⟨CB, h1, fun c b e => by
    obtain ⟨C, ns, q1, q2, q3, q4, q5, q6, q7⟩ := h3 c b e
    exact ⟨C, ns, q1, hK ▸ q2, hK ▸ q3, hK ▸ q4, hK ▸ q5, hK ▸ q6, hK ▸ q7⟩⟩
end
end G

set_option maxHeartbeats 4000000
namespace G
open PySem L2
section
variable {P : Program} {w : World} {K : PySem.W.Frag} {mg : Str → Option Value} {base : Heap} {ps N : List Str} {env : PySem.Env} {A : Around} {outer : List PySem.Env} {s s1 : Shared} {H H1 : Hp} {xe : Value → Shared → Prop} {pins : List (Addr × Obj)} {σ : St}
theorem AtK.more {D : Addr} (hN : N.take ps.length = ps) (h0 : 0 < ps.length) (h : AtK (cxK P w K mg base ps env A outer s H xe) D) : AtK (cxK P w K mg base N env A outer s H xe) D := by
  obtain ⟨⟨qual, scope, ps', L, f, cda, cc, me, he, K1, S, hps, hn⟩, hm⟩ := h
  refine ⟨⟨qual, scope, ps', L, f, cda, cc, me, he, K1, S, hps, ?_⟩, hm⟩
  have hn : ps[0]? = some me := hn
  show N[0]? = some me
  rw [← hN, List.getElem?_take_of_lt h0] at hn
  exact hn
end
end G

set_option maxHeartbeats 4000000
namespace G
open PySem L2
end G

set_option maxHeartbeats 4000000
namespace G
open PySem L2
section
variable {Γ : Gam} {X : Cx} {a b : Expr} {fa fb : AE Γ} {pos : Pos}
end
end G

set_option maxHeartbeats 4000000
namespace G
open PySem PySem.W PyProof.Rows
section
variable {prog : Program} {w : World} {A : Around} {E : Value → Shared → Prop} {s : Shared} {K : Frag} {x C C2 L f f2 : Addr} {h₀ : Heap} {m : Str → Option Value} {ox : Obj} {od : Option Obj}
end
end G

set_option maxHeartbeats 4000000
namespace G
open PySem L2
section
variable (Γ : Gam)
structure InvT (X : Cx) (tab : Nat → Option (Fn Γ)) : Prop where
  ex : ∀ c g, tab c = some g → ∃ C ns k f fd ps, Γ.cls c = some (C, ns) ∧ PySem.W.findIn X.K (.ref C) "__invert__" = some (some (.ref f)) ∧ PySem.W.isFn X.K (.ref f) = true ∧ FnOk X.prog X.w X.K X.mg X.base CX0 k f fd ps (spG Γ 1 g) ∧ Room k X.A ∧ Binds X.K fd ps []
structure InvTCa (P : Program) (w : World) (mg : Str → Option Value) (base : Heap) (tab : Nat → Option (Fn Γ)) (k : Nat) : Prop where
  ex : ∀ c g, tab c = some g → ∃ C ns f fd ps, Γ.cls c = some (C, ns) ∧ PySem.W.findIn Γ.K (.ref C) "__invert__" = some (some (.ref f)) ∧ PySem.W.isFn Γ.K (.ref f) = true ∧ FnOk P w Γ.K mg base CX0 k f fd ps (spG Γ 1 g) ∧ Binds Γ.K fd ps []
end
section
variable {Γ : Gam} {X : Cx} {σ : St} {env env' : Env Γ} {w : Wd} {a b : Expr} {pos : Pos} {tab : Nat → Option (Fn Γ)} {fa fb : AE Γ} {op : Operator} {k j : Nat}
theorem InvTCa.iv (hK : Γ.K = X.K) (h : InvTCa Γ X.prog X.w X.mg X.base tab k) (hr : Room j X.A) (l : k ≤ j) : InvT Γ X tab := ⟨fun c g e => by
  obtain ⟨C, ns, f, fd, ps, h1, h2, h3, h4, h5⟩ := h.ex c g e
  exact ⟨C, ns, k, f, fd, ps, h1, hK ▸ h2, hK ▸ h3, hK ▸ h4, hr.mono l, hK ▸ h5⟩⟩
end
end G

set_option maxHeartbeats 4000000
namespace G
open PySem L2
/-- every way to its end gives out a token -/
def Frs {α : Type} : Sem α → Prop
  | .pure _ => False
  | .raise _ => True
  | .unsupported _ => True
  | .finish _ => True
  | .rule _ k => Frs (k ())
  | .at _ k => Frs (k ())
  | .load _ _ k => ∀ o, Frs (k o)
  | .update _ _ _ k => Frs (k ())
  | .alloc _ k => ∀ a, Frs (k a)
  | .loadIfAlive _ k => ∀ o, Frs (k o)
  | .point _ k => Frs (k ())
  | .register _ k => Frs (k ())
  | .fresh _ => True
  | .ask k => ∀ x, Frs (k x)
  | .choose _ _ k => ∀ n, Frs (k n)
  | .os _ _ k => ∀ r, Frs (k r)
  | .call _ _ _ _ k => ∀ r, Frs (k r)
  | .handled _ k => ∀ x, Frs (k x)
  | .newGen _ k => ∀ x, Frs (k x)
  | .genState _ k => ∀ x, Frs (k x)
  | .resume _ _ _ k => ∀ x, Frs (k x)
  | .yield _ _ _ k => ∀ x, Frs (k x)
  | .stack k => ∀ x, Frs (k x)
  | .fork _ k => ∀ x, Frs (k x)
  | .thread k => ∀ x, Frs (k x)
  | .await _ _ _ _ k => ∀ x, Frs (k x)
end G

set_option maxHeartbeats 4000000
namespace G
open PySem L2
structure SdET (Γ : Gam) (X : Cx) (e : Expr) (f : Ev Γ) : Prop where
  run : Gd Γ X → ∀ (σ : St) (env : Env Γ) (r : Sl Γ) (env' : Env Γ) (w : Wd) (Q : VK), f env = some (r, env') → ER Γ w σ env → (∀ v w' Fr, ER Γ w' σ env' → TR Γ w' v r Fr → Step w w' → Fresh w Fr → Q v w'.H) →
    ∀ pins s, 1 ≤ s.toks → Inv X pins σ w.H s → wpAny (model X.prog X.w) X.A (eval e X.env) (EP X pins σ Q) X.xe s
structure SdTT (Γ : Gam) (X : Cx) (e : Expr) (f : Et Γ) : Prop where
  run : Gd Γ X → ∀ (σ : St) (env : Env Γ) (b : Bool) (env' : Env Γ) (w : Wd) (Q : Bool → Hp → Prop), f env = some (b, env') → ER Γ w σ env → (∀ w', ER Γ w' σ env' → Step w w' → Q b w'.H) →
    ∀ pins s, 1 ≤ s.toks → Inv X pins σ w.H s → wpAny (model X.prog X.w) X.A (isTrue e X.env (eval e X.env)) (TP X pins σ Q) X.xe s
structure SdST (Γ : Gam) (X : Cx) (A : List Nat) (st : Stmt) (f : Es Γ) : Prop where
  run : Gd Γ X → ∀ (σ : St) (env : Env Γ) (fl : Fl Γ) (env' : Env Γ) (w : Wd) (D : Ends), f env = some (fl, env') → ER Γ w σ env → Post Γ A σ w D fl env' →
    ∀ pins s, 1 ≤ s.toks → Inv X pins σ w.H s → wpAny (model X.prog X.w) X.A (exec st X.env) (SP X pins D) X.xe s
structure SdSsT (Γ : Gam) (X : Cx) (A : List Nat) (st : List Stmt) (f : Es Γ) : Prop where
  run : Gd Γ X → ∀ (σ : St) (env : Env Γ) (fl : Fl Γ) (env' : Env Γ) (w : Wd) (D : Ends), f env = some (fl, env') → ER Γ w σ env → Post Γ A σ w D fl env' →
    ∀ pins s, 1 ≤ s.toks → Inv X pins σ w.H s → wpAny (model X.prog X.w) X.A (execs st X.env) (SP X pins D) X.xe s
structure FnT (P : Program) (w : World) (K : PySem.W.Frag) (mg : Str → Option Value) (base : Heap) (CX : CXT) (k : Nat) (f : Addr) (fd : FuncData) (ps : List Str) (sp : Sp) : Prop where
  len : ∀ vs H Q E, sp vs H Q E → vs.length = ps.length
  run : ∀ (A : Around) (outer : List PySem.Env) (s : Shared) (H : Hp) (args : Args) (us : List Value) (vs : List V) (Q : VK) (E : XK), 1 ≤ s.toks → Room k A → Env0 P w K mg base A outer s H → BindsTo s fd args (ps.zip us) → Vals vs us → sp vs H Q E →
    codeAny (model P w) A (.call (.ref f) args) (CR CX outer P w H s Q E) s
theorem FnT.mono {P : Program} {w : World} {K : PySem.W.Frag} {mg : Str → Option Value} {base : Heap} {CX : CXT} {j k : Nat} {f : Addr} {fd : FuncData} {ps : List Str} {sp : Sp} (F : FnT P w K mg base CX j f fd ps sp) (h : j ≤ k) : FnT P w K mg base CX k f fd ps sp :=
  ⟨F.len, fun A outer s H args us vs Q E h1 hr => F.run A outer s H args us vs Q E h1 (hr.mono h)⟩
section
variable {Γ : Gam} {X : Cx} {A : List Nat} {a b c e : Expr} {es : List Expr} {st : Stmt} {rest : List Stmt} {f g h' : Ev Γ} {pos : Pos}
theorem SdE.t (h : SdE Γ X e f) : SdET Γ X e f := ⟨fun hK σ env r env' w Q he E k pins s _ I => h hK σ env r env' w Q he E k pins s I⟩
theorem SdT.t' {f : Et Γ} (h : SdT Γ X e f) : SdTT Γ X e f := ⟨fun hK σ env r env' w Q he E k pins s _ I => h hK σ env r env' w Q he E k pins s I⟩
theorem SdS.t {f : Es Γ} (h : SdS Γ X A st f) : SdST Γ X A st f := ⟨fun hK σ env r env' w Q he E k pins s _ I => h hK σ env r env' w Q he E k pins s I⟩
theorem SdSs.t {f : Es Γ} (h : SdSs Γ X A rest f) : SdSsT Γ X A rest f := ⟨fun hK σ env r env' w Q he E k pins s _ I => h hK σ env r env' w Q he E k pins s I⟩
structure DfT (Γ : Gam) (X : Cx) (x : Str) (np : Nat) (g : Fn Γ) : Prop where
  ex : ∃ k f fd ps, FnT X.prog X.w X.K X.mg X.base CX0 k f fd ps (spG Γ np g) ∧ Room k X.A ∧ X.mg x = some (.ref f) ∧ PySem.W.keepIn X.K (.ref f) = true ∧ Binds X.K fd ps []
end
structure CaT' (Γ : Gam) (P : Program) (w : World) (mg : Str → Option Value) (base : Heap) (x : Str) (np : Nat) (g : Fn Γ) (k : Nat) : Prop where
  ex : ∃ f fd ps, FnT P w Γ.K mg base CX0 k f fd ps (spG Γ np g) ∧ mg x = some (.ref f) ∧ PySem.W.keepIn Γ.K (.ref f) = true ∧ Binds Γ.K fd ps []
theorem CaT'.df {Γ : Gam} {X : Cx} {x : Str} {np : Nat} {g : Fn Γ} {k j : Nat} (hK : Γ.K = X.K) (c : CaT' Γ X.prog X.w X.mg X.base x np g k) (hr : Room j X.A) (h : k ≤ j) : DfT Γ X x np g := by
  obtain ⟨f, fd, ps, h1, h2, h3, h4⟩ := c
  exact ⟨k, f, fd, ps, hK ▸ h1, hr.mono h, h2, hK ▸ h3, hK ▸ h4⟩
end G

set_option maxHeartbeats 4000000
namespace G
open PySem L2
section
variable {Γ : Gam} {X : Cx} {a b e o : Expr} {f g : Ev Γ} {pos apos : Pos}
end
end G

set_option maxHeartbeats 4000000
namespace G
open PySem L2
structure SdZsA (Γ : Gam) (X : Cx) (xc : Nat → Addr) (A : List Nat) (W : WX) (b0 : List Stmt) (sts : List Stmt) (z : Ez Γ) : Prop where
  run : Gd Γ X → ∀ (σ : St) (env : Env Γ) (x : Er) (env1 : Env Γ) (w : Wd) (D : Ends), z env = some (x, env1) → ER Γ w σ env → ZPost Γ xc A σ w W x env1 → wSsA X b0 sts D σ w.H
section
variable {Γ : Gam} {X : Cx} {xc : Nat → Addr} {A : List Nat} {W : WX} {b0 : List Stmt} {st : Stmt} {sts rest : List Stmt} {z zg : Ez Γ} {f : Es Γ} {x : Str} {p p3 p4 : Pos} {c : Nat}
theorem SdZs.at (h : SdZs Γ X xc A W sts z) : SdZsA Γ X xc A W b0 sts z := ⟨fun hK σ env y env1 w D he E k => wSsA.of (h hK σ env y env1 w D he E k)⟩
end
section
variable {Γ : Gam} {X : Cx} {xc : Nat → Addr} {A : List Nat} {c : Nat} {nm x1 : Str} {c1 : Value} {body : List Stmt} {f : Es Γ} {z : Ez Γ} {np1 hp1 tpos sp rp : Pos} {b : Bool}
end
structure EqST (Γ : Gam) (X : Cx) (tab : Nat → Option (Fn Γ)) : Prop where
  ex : ∀ c g, tab c = some g → ∃ C ns k f fd ps, Γ.cls c = some (C, ns) ∧ PySem.W.findIn X.K (.ref C) "__eq__" = some (some (.ref f)) ∧ PySem.W.isFn X.K (.ref f) = true ∧ FnOk X.prog X.w X.K X.mg X.base CX0 k f fd ps (spG Γ 2 g) ∧ Room k X.A ∧ Binds X.K fd ps [] ∧ PySem.W.notFirst X.K C (.type "str") = true
structure EqSCa (Γ : Gam) (P : Program) (w : World) (mg : Str → Option Value) (base : Heap) (tab : Nat → Option (Fn Γ)) (k : Nat) : Prop where
  ex : ∀ c g, tab c = some g → ∃ C ns f fd ps, Γ.cls c = some (C, ns) ∧ PySem.W.findIn Γ.K (.ref C) "__eq__" = some (some (.ref f)) ∧ PySem.W.isFn Γ.K (.ref f) = true ∧ FnOk P w Γ.K mg base CX0 k f fd ps (spG Γ 2 g) ∧ Binds Γ.K fd ps [] ∧ PySem.W.notFirst Γ.K C (.type "str") = true
theorem EqSCa.q {Γ : Gam} {X : Cx} {tab : Nat → Option (Fn Γ)} {k j : Nat} (hK : Γ.K = X.K) (h : EqSCa Γ X.prog X.w X.mg X.base tab k) (hr : Room j X.A) (l : k ≤ j) : EqST Γ X tab := ⟨fun c g e => by
  obtain ⟨C, ns, f, fd, ps, h1, h2, h3, h4, h5, h6⟩ := h.ex c g e
  exact ⟨C, ns, k, f, fd, ps, h1, hK ▸ h2, hK ▸ h3, hK ▸ h4, hr.mono l, hK ▸ h5, hK ▸ h6⟩⟩
section
variable {Γ : Gam} {X : Cx} {σ : St} {env env' : Env Γ} {w : Wd} {a b : Expr} {pos : Pos} {tab : Nat → Option (Fn Γ)} {fa fb : AE Γ}
end
end G

set_option maxHeartbeats 4000000
namespace G
open PySem PySem.Spec PyProof.Rows L2
section
variable {X : Cx} {pos : Pos}
end
section
variable {Γ : Gam} {X : Cx}
end
structure IsS (Γ : Gam) (X : Cx) (tab : Nat → Option Bool) (x : Str) : Prop where
  ex : ∃ CB, X.mg x = some (.ref CB) ∧ PySem.W.kitOne X.K (.type "str") (.ref CB) = some false ∧ ∀ c b, tab c = some b → ∃ C ns, Γ.cls c = some (C, ns) ∧ Cls X.K C ∧ PySem.W.findIn X.K (.ref C) "__class__" = some (some (.builtin "object.__class__")) ∧ PySem.W.specialIn X.K (.builtin "object.__class__") "__get__" = some (some (.builtin "getset_descriptor.__get__")) ∧
    PySem.W.takesIn X.K (.builtin "object.__class__") = some true ∧ PySem.W.mroIn X.K C (.type "object") = some true ∧ PySem.W.kitOne X.K (.ref C) (.ref CB) = some b
structure IsSC (Γ : Gam) (mg : Str → Option Value) (tab : Nat → Option Bool) (x : Str) : Prop where
  ex : ∃ CB, mg x = some (.ref CB) ∧ PySem.W.kitOne Γ.K (.type "str") (.ref CB) = some false ∧ ∀ c b, tab c = some b → ∃ C ns, Γ.cls c = some (C, ns) ∧ Cls Γ.K C ∧ PySem.W.findIn Γ.K (.ref C) "__class__" = some (some (.builtin "object.__class__")) ∧ PySem.W.specialIn Γ.K (.builtin "object.__class__") "__get__" = some (some (.builtin "getset_descriptor.__get__")) ∧
    PySem.W.takesIn Γ.K (.builtin "object.__class__") = some true ∧ PySem.W.mroIn Γ.K C (.type "object") = some true ∧ PySem.W.kitOne Γ.K (.ref C) (.ref CB) = some b
section
variable {Γ : Gam} {X : Cx} {pos : Pos}
theorem IsSC.is {tab : Nat → Option Bool} {x : Str} (hK : Γ.K = X.K) (h : IsSC Γ X.mg tab x) : IsS Γ X tab x := by
  obtain ⟨CB, h1, h2, h3⟩ := h
  exact ⟨CB, h1, hK ▸ h2, fun c b e => by
    obtain ⟨C, ns, q1, q2, q3, q4, q5, q6, q7⟩ := h3 c b e
    exact ⟨C, ns, q1, hK ▸ q2, hK ▸ q3, hK ▸ q4, hK ▸ q5, hK ▸ q6, hK ▸ q7⟩⟩
end
end G

set_option maxHeartbeats 4000000
namespace G
open PySem L2
section
variable {Γ : Gam} {X : Cx}
variable {a b : Expr} {f : Ev Γ} {fb : AE Γ} {apos pos : Pos}
end
end G

set_option maxHeartbeats 4000000
namespace G
open PySem L2
section
variable {Γ : Gam} {X : Cx} {xc : Nat → Addr} {A : List Nat} {c : Nat} {fld nm due x1 : Str} {c1 : Value} {body : List Stmt} {f : Es Γ} {z : Ez Γ} {np1 hp1 tpos nnp ap q4 q5 sp r1 r2 r3 r4 : Pos}
variable {W : WX} {pos apos npos : Pos}
end
end G

set_option maxHeartbeats 4000000
namespace G
open PySem L2
def spSupH (C : Addr) (fld : Str) (ok : V → Hp → Prop) : Sp := fun vs H Q _ => ∃ a v, vs = [.ref a, v] ∧ H a = some (exo a C none) ∧ ok v H ∧
  ∀ dx, H dx = none → dx ≠ a → Q .non (upd (upd H dx (exd dx [(fld, v)])) a (exo a C (some dx)))
structure BadCH (X : Cx) (x : Str) (CB : Addr) (fld : Str) (ok : V → Hp → Prop) : Prop where
  ex : ∃ k fI fd ps, FnOk X.prog X.w X.K X.mg X.base CX0 k fI fd ps (spSupH CB fld ok) ∧ Room (k + 1) X.A ∧ Binds X.K fd ps [] ∧ PySem.W.findIn X.K (.ref CB) "__init__" = some (some (.ref fI)) ∧ PySem.W.typeIn X.K (.ref fI) = some (.type "function")
  T : OexC X.K CB
  mg : X.mg x = some (.ref CB)
structure BdCaH (Γ : Gam) (P : Program) (w : World) (mg : Str → Option Value) (base : Heap) (x : Str) (CB : Addr) (fld : Str) (ok : V → Hp → Prop) (k : Nat) : Prop where
  ex : ∃ fI fd ps, FnOk P w Γ.K mg base CX0 k fI fd ps (spSupH CB fld ok) ∧ Binds Γ.K fd ps [] ∧ PySem.W.findIn Γ.K (.ref CB) "__init__" = some (some (.ref fI)) ∧ PySem.W.typeIn Γ.K (.ref fI) = some (.type "function")
  T : OexC Γ.K CB
  mg : mg x = some (.ref CB)
theorem BdCaH.b {Γ : Gam} {X : Cx} {x fld : Str} {CB : Addr} {ok : V → Hp → Prop} {k j : Nat} (hK : Γ.K = X.K) (h : BdCaH Γ X.prog X.w X.mg X.base x CB fld ok k) (hr : Room j X.A) (l : k + 1 ≤ j) : BadCH X x CB fld ok := by
  obtain ⟨⟨fI, fd, ps, h1, h2, h3, h4⟩, hT, hm⟩ := h
  exact ⟨⟨k, fI, fd, ps, hK ▸ h1, hr.mono l, hK ▸ h2, hK ▸ h3, hK ▸ h4⟩, hK ▸ hT, hm⟩
section
variable {Γ : Gam} {X : Cx} {xc : Nat → Addr} {A : List Nat} {W : WX} {e : Expr} {x fld : Str} {ok : V → Hp → Prop} {c : Nat} {okd : D → Bool} {f : Ev Γ} {p p3 p4 : Pos}
end
end G

set_option maxHeartbeats 4000000
namespace G
open PySem L2
section
variable {Γ : Gam} {X : Cx} {e e2 : Expr} {f g : AE Γ} {p pos : Pos} {kws : List Keyword}
end
end G

set_option maxHeartbeats 4000000
namespace G
open PySem L2
structure MzDCa (Γ : Gam) (P : Program) (w : World) (mg : Str → Option Value) (base : Heap) (xc : Nat → Addr) (c : Nat) (m : Str) (gz : Fz Γ) (k : Nat) : Prop where
  ex : ∃ C ns f fd ps, Γ.cls c = some (C, ns) ∧ Cls Γ.K C ∧ Meth Γ.K C m f ∧ FnOk P w Γ.K mg base (L2.CX P w) k f fd ps (spZ Γ xc 1 gz) ∧ Binds Γ.K fd ps []
theorem MzDCa.g {Γ : Gam} {X : Cx} {xc : Nat → Addr} {c k j : Nat} {m : Str} {gz : Fz Γ} (hK : Γ.K = X.K) (h : MzDCa Γ X.prog X.w X.mg X.base xc c m gz k) (hr : Room j X.A) (l : k + 1 ≤ j) : Mz Γ X xc c m 1 gz := by
  obtain ⟨C, ns, f, fd, ps, h1, h2, h3, h4, h5⟩ := h
  exact ⟨C, ns, k, f, fd, ps, h1, hK ▸ h2, hK ▸ h3, hK ▸ h4, hr.mono (by omega), hK ▸ h5⟩
open Classical in
section
variable {Γ : Gam} {X : Cx} {xc : Nat → Addr} {W : WX} {pos npos apos : Pos} {c : Nat} {x m : Str}
end
end G

set_option maxHeartbeats 4000000
namespace G
open PySem L2
section
variable {Γ : Gam} {X : Cx}
end
end G

set_option maxHeartbeats 4000000
namespace G
open PySem PySem.Spec PyProof.Rows L2
def keyT (e : Int × Value) : Str := match e.2 with
  | .str z _ => z
  | _ => Str.empty
def GoodT (w : World) (e : Int × Value) : Prop := ∃ z tk, e.2 = .str z tk ∧ e.1 = hashStr w z
/-- the texts xs, each once, laid in order of places -/
def SetS (w : World) (h : Heap) (a : Addr) (xs : List Str) : Prop :=
  ∃ u es k t, h.get? a = some u ∧ u.ExactSet ∧ u.data = .set es k t ∧ (∀ e ∈ es.toList, GoodT w e) ∧ (es.toList.map keyT).Nodup ∧ (∀ z, z ∈ es.toList.map keyT ↔ z ∈ xs) ∧ es.size ≤ xs.length ∧
    t.fits es.size = true ∧ Ris t.place.toList ∧ (w.params.followText "set-order" = true ∨ t.led = true)
section
variable {P : Program} {w : World} {A : Around} {E : Value → Shared → Prop} {s : Shared} {a : Addr} {xs : List Str}
theorem SetS.go {h h' : Heap} (R : SetS w h a xs) (k : ∀ u, h.get? a = some u → h'.get? a = some u) : SetS w h' a xs := by
  obtain ⟨u, es, n, t, q, r⟩ := R
  exact ⟨u, es, n, t, k u q, r⟩
end
end G

set_option maxHeartbeats 4000000
namespace G
open PySem PySem.Spec PyProof.Rows L2
section
variable {P : Program} {w : World} {A : Around} {E : Value → Shared → Prop} {s : Shared}
end
end G

set_option maxHeartbeats 4000000
namespace G
open PySem PySem.Spec PyProof.Rows L2
section
variable {X : Cx} {e : Expr} {te : TE} {p1 p2 p3 p4 : Pos}
variable {Γ : Gam} {f : Ev Γ}
end
end G

set_option maxHeartbeats 4000000
namespace G
open PySem L2 PyProof.Rows
section
variable {Γ : Gam} {X : Cx} {e : Expr} {p1 p2 p3 p4 : Pos} {f : Ev Γ}
end
end G

set_option maxHeartbeats 4000000
namespace G
open PySem L2
open Classical in
section
variable {Γ : Gam} {X : Cx} {e : Expr} {f : Ev Γ}
end
end G

set_option maxHeartbeats 4000000
namespace G
open PySem L2
section
variable {Γ : Gam} {X : Cx}
end
end G

set_option maxHeartbeats 4000000
namespace G
open PySem L2
section
variable {Γ : Gam} {X : Cx} {A : List Nat} {e : Expr} {body : List Stmt} {fe : Ev Γ} {g : Es Γ} {pos : Pos}
end
end G

set_option maxHeartbeats 4000000
namespace GNe
open PySem PySem.SeqAt
open AutoSeq1 (wpAny_loadPart')
open MeetsSeq MeetsSeq2 MeetsSeq3 SeqRoads2
section
variable {pr : Program} {wo : World} {Ar : Around} {R : Result → Shared → Prop}
end
end GNe
namespace G
open PySem L2
section
variable {X : Cx} {n : Nat} {D : Eqv}
end
end G
namespace G
open PySem L2
/-- the two are instances of the class c, and the own == says True -/
def EqI {Γ : Gam} (c : Nat) (fe : Fn Γ) (d d' : D) : Prop := ∃ fs gs, d = .ins c fs ∧ d' = .ins c gs ∧ fe [.dat d, .dat d'] = some (.dat (.bl true), [.dat d, .dat d'])
def RI (Γ : Gam) (c : Nat) (fe : Fn Γ) (a b : Addr) (H : Hp) : Prop := ∃ (M : Addr → Prop) (d d' : D), Dat Γ M H (.ref a) d ∧ Dat Γ M H (.ref b) d' ∧ (∀ z, M z → H z ≠ none) ∧ EqI c fe d d'
theorem RI.ext {Γ : Gam} {c : Nat} {fe : Fn Γ} : ∀ a b (H H' : Hp), Ext H H' → RI Γ c fe a b H → RI Γ c fe a b H' := fun a b H H' e ⟨M, d, d', h1, h2, h3, h4⟩ => by
  have go : Go M H M H' := ⟨fun a u _ h => e a u h, fun a n _ => n⟩
  refine ⟨M, d, d', h1.go go, h2.go go, fun z m => ?_, h4⟩
  cases q : H z with
  | none => exact absurd q (h3 z m)
  | some o => rw [e z o q]; simp
structure EqLCa (Γ : Gam) (P : Program) (w : World) (mg : Str → Option Value) (base : Heap) (c : Nat) (g : Fn Γ) (k : Nat) : Prop where
  ex : ∃ C ns f fd ps, Γ.cls c = some (C, ns) ∧ PySem.W.findIn Γ.K (.ref C) "__eq__" = some (some (.ref f)) ∧ PySem.W.isFn Γ.K (.ref f) = true ∧ FnOk P w Γ.K mg base CX0 k f fd ps (spG Γ 2 g) ∧ Binds Γ.K fd ps []
structure EqLT (Γ : Gam) (X : Cx) (c : Nat) (g : Fn Γ) : Prop where
  ex : ∃ C ns k f fd ps, Γ.cls c = some (C, ns) ∧ PySem.W.findIn X.K (.ref C) "__eq__" = some (some (.ref f)) ∧ PySem.W.isFn X.K (.ref f) = true ∧ FnOk X.prog X.w X.K X.mg X.base CX0 k f fd ps (spG Γ 2 g) ∧ Binds X.K fd ps [] ∧ Room (k + 1) X.A
theorem EqLCa.q {Γ : Gam} {X : Cx} {c : Nat} {g : Fn Γ} {k j : Nat} (hK : Γ.K = X.K) (h : EqLCa Γ X.prog X.w X.mg X.base c g k) (hr : Room j X.A) (l : k + 1 ≤ j) : EqLT Γ X c g := by
  obtain ⟨C, ns, f, fd, ps, h1, h2, h3, h4, h5⟩ := h
  exact ⟨C, ns, k, f, fd, ps, h1, hK ▸ h2, hK ▸ h3, hK ▸ h4, hK ▸ h5, hr.mono l⟩
section
variable {Γ : Gam} {X : Cx} {xc : Nat → Addr} {W : WX} {a b : Expr} {as : List (XA Γ)} {pos : Pos}
end
end G

set_option maxHeartbeats 4000000
namespace G
open PySem L2 PySem.Spec PyProof.Rows
section
variable {X : Cx} {x1 x2 n : Str} {c1 c2 : Value} {i : Nat} {body st1 suite : List Stmt} {b0 b1 : Stmt} {np1 np2 pos pos1 pos2 : Pos} {tb : WX → TS} {ts1 ts2 : Addr → Value → Option Addr → TS}
end
end G

set_option maxHeartbeats 4000000
namespace G
open PySem L2
section
variable {Γ : Gam} {X : Cx} {xc : Nat → Addr} {W : WX} {A : List Nat} {fld nm x1 x2 xb s1 s2 : Str} {CM : Addr} {c1 c2 ie : Nat} {body : List Stmt} {q : Qs Γ}
end
end G

set_option maxHeartbeats 4000000
namespace G
open PySem L2 PySem.Spec PyProof.Rows PySem.W
open PySem.Builtin PySem.Builtin.Str PySem.Builtin.Float
section
variable {X : Cx} {e : Expr} {te : TE} {pos p1 p2 : Pos} {j : Nat}
end
inductive Fp (Γ : Gam) where
  | lit (z : PySem.Str)
  | op (a : AE Γ)
  | l8 (a : AE Γ)
  | r2 (a : AE Γ)
def Fp.arg {Γ : Gam} : Fp Γ → Option (Nat × AE Γ)
  | .lit _ => none
  | .op a => some (0, a)
  | .l8 a => some (1, a)
  | .r2 a => some (2, a)
section
variable {Γ : Gam} {X : Cx}
end
end G

set_option maxHeartbeats 4000000
namespace G
open PySem L2 PySem.Spec
section
variable {Γ : Gam} {X : Cx} {a b : Expr} {f : Ev Γ} {fb : AE Γ} {pos : Pos}
end
end G

set_option maxHeartbeats 4000000
namespace G
open PySem L2
structure PrT (Γ : Gam) (X : Cx) (c : Nat) (fld : Str) (g : Fn Γ) : Prop where
  ex : ∃ C ns p f k fd ps, Γ.cls c = some (C, ns) ∧ Cls X.K C ∧ PropOf X.K C fld p f ∧ FnOk X.prog X.w X.K X.mg X.base CX0 k f fd ps (spG Γ 1 g) ∧ Room (k + 1) X.A ∧ Binds X.K fd ps []
structure PrCa (Γ : Gam) (P : Program) (w : World) (mg : Str → Option Value) (base : Heap) (c : Nat) (fld : Str) (g : Fn Γ) (k : Nat) : Prop where
  ex : ∃ C ns p f fd ps, Γ.cls c = some (C, ns) ∧ Cls Γ.K C ∧ PropOf Γ.K C fld p f ∧ FnOk P w Γ.K mg base CX0 k f fd ps (spG Γ 1 g) ∧ Binds Γ.K fd ps []
section
variable {Γ : Gam} {X : Cx} {o : Expr} {f : Ev Γ} {g : Fn Γ} {c k j : Nat} {fld : Str} {pos : Pos} {tab : Nat → Option Str}
theorem PrCa.pr (hK : Γ.K = X.K) (h : PrCa Γ X.prog X.w X.mg X.base c fld g k) (hr : Room j X.A) (l : k + 1 ≤ j) : PrT Γ X c fld g := by
  obtain ⟨C, ns, p, f, fd, ps, h1, h2, h3, h4, h5⟩ := h
  exact ⟨C, ns, p, f, k, fd, ps, h1, hK ▸ h2, hK ▸ h3, hK ▸ h4, hr.mono l, hK ▸ h5⟩
end
end G

set_option maxHeartbeats 4000000
namespace G
open PySem L2
section
variable {Γ : Gam} {X : Cx}
end
section
variable {Γ : Gam} {X : Cx} {A : List Nat}
end
end G

set_option maxHeartbeats 4000000
namespace G
open PySem L2
abbrev RwT := List (List Key × List D)
def addH : RwT → List Key → D → RwT
  | [], k, y => [(k, [y])]
  | (k', ds) :: r, k, y => if k' = k then (k', ds ++ [y]) :: r else (k', ds) :: addH r k y
inductive RowsH (Γ : Gam) (M : Addr → Prop) (H : Hp) : RwT → List (List Key × V) → List Addr → Prop
  | nil : RowsH Γ M H [] [] []
  | cons {k : List Key} {ds : List D} {q : Addr} {vs : List V} {r : RwT} {kvs : List (List Key × V)} {qs : List Addr} : H q = some (.lst vs) → Dats Γ M H vs ds → RowsH Γ M H r kvs qs → RowsH Γ M H ((k, ds) :: r) ((k, .ref q) :: kvs) (q :: qs)
theorem RowsH.len {Γ : Gam} {M : Addr → Prop} {H : Hp} : ∀ {r : RwT} {kvs : List (List Key × V)} {qs : List Addr}, RowsH Γ M H r kvs qs → kvs.length = r.length ∧ qs.length = r.length
  | _, _, _, .nil => ⟨rfl, rfl⟩
  | _, _, _, .cons _ _ t => by
    obtain ⟨a, b⟩ := t.len
    exact ⟨by rw [List.length_cons, List.length_cons, a], by rw [List.length_cons, List.length_cons, b]⟩
theorem RowsH.go {Γ : Gam} {M M' : Addr → Prop} {H H' : Hp} (g : Go M H M' H') : ∀ {r : RwT} {kvs : List (List Key × V)} {qs : List Addr}, RowsH Γ M H r kvs qs → (∀ q ∈ qs, ∀ u, H q = some u → H' q = some u) → RowsH Γ M' H' r kvs qs
  | _, _, _, .nil, _ => .nil
  | _, _, _, .cons h d t, k => .cons (k _ List.mem_cons_self _ h) (d.go g) (t.go g fun q hq => k q (List.mem_cons_of_mem _ hq))
theorem RowsH.snoc {Γ : Gam} {M : Addr → Prop} {H : Hp} {k : List Key} {q : Addr} {vs : List V} {ds : List D} (h : H q = some (.lst vs)) (d : Dats Γ M H vs ds) : ∀ {r : RwT} {kvs : List (List Key × V)} {qs : List Addr}, RowsH Γ M H r kvs qs → RowsH Γ M H (r ++ [(k, ds)]) (kvs ++ [(k, .ref q)]) (qs ++ [q])
  | _, _, _, .nil => .cons h d .nil
  | _, _, _, .cons h' d' t => .cons h' d' (t.snoc h d)
/-- the row of k: none, or it is at q -/
theorem RowsH.at {Γ : Gam} {M : Addr → Prop} {H : Hp} {k : List Key} : ∀ {r : RwT} {kvs : List (List Key × V)} {qs : List Addr}, RowsH Γ M H r kvs qs → qs.Nodup →
    (valV kvs k = none ∧ ∀ ds y, addH (r ++ [(k, ds)]) k y = r ++ [(k, ds ++ [y])] ∧ (ds = [] → addH r k y = r ++ [(k, [y])])) ∨
    ∃ q vs, valV kvs k = some (.ref q) ∧ q ∈ qs ∧ H q = some (.lst vs) ∧ (∃ ds, (k, ds) ∈ r ∧ Dats Γ M H vs ds) ∧ ∀ (M' : Addr → Prop) (H' : Hp) (v : V) (y : D), Go M H M' H' → (∀ p ∈ qs, p ≠ q → ∀ u, H p = some u → H' p = some u) → H' q = some (.lst (vs ++ [v])) → Dat Γ M' H' v y → RowsH Γ M' H' (addH r k y) kvs qs
  | _, _, _, .nil, _ => .inl ⟨rfl, fun ds y => ⟨by simp [addH], fun _ => rfl⟩⟩
  | (k', ds0) :: r, _, _, .cons (q := q0) (vs := vs0) h d t, nd => by
    obtain ⟨n1, n2⟩ := List.nodup_cons.mp nd
    by_cases e : k' = k
    · subst e
      refine .inr ⟨q0, vs0, by rw [valV_pos rfl], List.mem_cons_self, h, ⟨ds0, List.mem_cons_self, d⟩, fun M' H' v y g kp hq hv => ?_⟩
      unfold addH
      rw [if_pos rfl]
      exact .cons hq ((d.go g).append (.cons hv .nil)) (t.go g fun p hp => kp p (List.mem_cons_of_mem _ hp) fun z => n1 (z ▸ hp))
    · rcases RowsH.at (k := k) t n2 with ⟨h1, h2⟩ | ⟨q, vs, h1, h2, h3, ⟨ds1, h6, h7⟩, h4⟩
      · refine .inl ⟨by rw [valV_neg e]; exact h1, fun ds y => ?_⟩
        obtain ⟨a, b⟩ := h2 ds y
        refine ⟨?_, fun z => ?_⟩
        · rw [List.cons_append]; unfold addH; rw [if_neg e, a]; rfl
        · unfold addH; rw [if_neg e, b z]; rfl
      · refine .inr ⟨q, vs, by rw [valV_neg e]; exact h1, List.mem_cons_of_mem _ h2, h3, ⟨ds1, List.mem_cons_of_mem _ h6, h7⟩, fun M' H' v y g kp hq hv => ?_⟩
        unfold addH
        rw [if_neg e]
        exact .cons (kp q0 List.mem_cons_self (fun z => n1 (z ▸ h2)) _ h) (d.go g) (h4 M' H' v y g (fun p hp hn => kp p (List.mem_cons_of_mem _ hp) hn) hq hv)
/-- the loop fills the dict at p0; its rows are at qs -/
structure GrpT (Γ : Gam) (w : Wd) (G0 : Addr → Prop) (H0 : Hp) (w' : Wd) (σ : St) (env : Env Γ) (ip : Nat) (p0 : Addr) (rows : RwT) (kvs : List (List Key × V)) (qs : List Addr) : Prop where
  er : ER Γ w' σ env
  st : Step w w'
  sp : σ[ip]? = some (some (.ref p0))
  hp : w'.H p0 = some (.dT kvs)
  rw : RowsH Γ w'.M w'.H rows kvs qs
  nd : (p0 :: qs).Nodup
  m : ∀ a ∈ p0 :: qs, w'.M a
  off : ∀ a ∈ p0 :: qs, ∀ i, ¬ w'.F i a
  new : ∀ q ∈ qs, w.H q = none
  o0 : (∃ i, w.F i p0) ∨ w.H p0 = none
  go : Go G0 H0 w'.M w'.H
section
variable {Γ : Gam} {X : Cx} {G0 : Addr → Prop} {H0 : Hp} {w w' w2 : Wd} {σ σ2 : St} {env env2 : Env Γ} {ip iw : Nat} {p0 : Addr} {rows : RwT} {kvs : List (List Key × V)} {qs : List Addr}
theorem GrpT.live (g : GrpT Γ w G0 H0 w' σ env ip p0 rows kvs qs) : ∀ a ∈ p0 :: qs, w'.H a ≠ none := fun a ha => g.er.dom a (g.m a ha)
theorem GrpT.next (g : GrpT Γ w G0 H0 w' σ env ip p0 rows kvs qs) (dom : ∀ a, w.M a → w.H a ≠ none) (E : ER Γ w2 σ2 env2) (p : Step w' w2) (sp : σ2[ip]? = some (some (.ref p0))) : GrpT Γ w G0 H0 w2 σ2 env2 ip p0 rows kvs qs where
  er := E
  st := g.st.trans p dom
  sp := sp
  hp := p.keep p0 _ (g.off p0 List.mem_cons_self) g.hp
  rw := g.rw.go (g.er.go p) fun q hq u e => p.keep q u (g.off q (List.mem_cons_of_mem _ hq)) e
  nd := g.nd
  m := fun a ha => p.mu a (g.off a ha) (g.m a ha)
  off := fun a ha => p.off (g.off a ha) (g.live a ha)
  new := g.new
  o0 := g.o0
  go := g.go.trans (g.er.go p)
theorem RowsH.kd {M M' : Addr → Prop} {H : Hp} (g : Go M H M' H) : ∀ {r : RwT} {kvs : List (List Key × V)} {qs : List Addr}, RowsH Γ M H r kvs qs → (∀ q ∈ qs, ¬ M' q) → TDats Γ M' H kvs (r.map fun r => (r.1, .lst r.2))
  | _, _, _, .nil, _ => .nil
  | _, _, _, .cons h d t, n => .cons (.lst (n _ List.mem_cons_self) h (d.go g)) (t.kd g fun q hq => n q (List.mem_cons_of_mem _ hq))
end
section
variable {Γ : Gam} {X : Cx} {A A0 A1 : List Nat} {tg iter e : Expr} {stk : Stmt} {fi : Ei Γ} {t : Eg Γ} {fk : Es Γ} {fe : Ev Γ} {pos p1 p2 p3 p4 p5 p8 p9 p11 : Pos} {ip dv : Nat} {xp xd : Str}
end
end G
namespace G
open PySem PySem.Spec PyProof.Rows L2
section
variable {X : Cx} {e : Expr} {td : TE} {p pos apos cpos : Pos}
end
end G
namespace G
open PySem L2
section
variable {Γ : Gam} {X : Cx} {p pos apos cpos npos : Pos}
end
end G

set_option maxHeartbeats 4000000
namespace G
open PySem L2
section
variable {Γ : Gam} {X : Cx}
end
end G

set_option maxHeartbeats 4000000
namespace G
open PySem L2
structure CaP (Γ : Gam) (P : Program) (w : World) (mg : Str → Option Value) (base : Heap) (x : Str) (np : Nat) (g : Fn Γ) (pre : List D) (k : Nat) : Prop where
  ex : ∃ f fd ps pv pu, FnOk P w Γ.K mg base CX0 k f fd ps (spG Γ np g) ∧ mg x = some (.ref f) ∧ PySem.W.keepIn Γ.K (.ref f) = true ∧ Binds Γ.K fd ps pu ∧ Vals pv pu ∧ ∀ M H, Dats Γ M H pv pre
structure DfP (Γ : Gam) (X : Cx) (x : Str) (np : Nat) (g : Fn Γ) (pre : List D) : Prop where
  ex : ∃ k f fd ps pv pu, FnOk X.prog X.w X.K X.mg X.base CX0 k f fd ps (spG Γ np g) ∧ Room k X.A ∧ X.mg x = some (.ref f) ∧ PySem.W.keepIn X.K (.ref f) = true ∧ Binds X.K fd ps pu ∧ Vals pv pu ∧ ∀ M H, Dats Γ M H pv pre
section
variable {Γ : Gam} {X : Cx}
theorem CaP.df {x : Str} {np : Nat} {g : Fn Γ} {pre : List D} {k j : Nat} (hK : Γ.K = X.K) (c : CaP Γ X.prog X.w X.mg X.base x np g pre k) (hr : Room j X.A) (h : k ≤ j) : DfP Γ X x np g pre := by
  obtain ⟨f, fd, ps, pv, pu, h1, h2, h3, h4, h5, h6⟩ := c
  exact ⟨k, f, fd, ps, pv, pu, hK ▸ h1, hr.mono h, h2, hK ▸ h3, hK ▸ h4, h5, h6⟩
end
end G

set_option maxHeartbeats 4000000
namespace G
open PySem L2
abbrev RwN := List (List D)
inductive RowsN (Γ : Gam) (M : Addr → Prop) (H : Hp) : RwN → List Addr → Prop
  | nil : RowsN Γ M H [] []
  | cons {ds : List D} {q : Addr} {vs : List V} {r : RwN} {qs : List Addr} : H q = some (.lst vs) → Dats Γ M H vs ds → RowsN Γ M H r qs → RowsN Γ M H (ds :: r) (q :: qs)
theorem RowsN.len {Γ : Gam} {M : Addr → Prop} {H : Hp} : ∀ {r : RwN} {qs : List Addr}, RowsN Γ M H r qs → qs.length = r.length
  | _, _, .nil => rfl
  | _, _, .cons _ _ t => by rw [List.length_cons, List.length_cons, t.len]
theorem RowsN.go {Γ : Gam} {M M' : Addr → Prop} {H H' : Hp} (g : Go M H M' H') : ∀ {r : RwN} {qs : List Addr}, RowsN Γ M H r qs → (∀ q ∈ qs, ∀ u, H q = some u → H' q = some u) → RowsN Γ M' H' r qs
  | _, _, .nil, _ => .nil
  | _, _, .cons h d t, k => .cons (k _ List.mem_cons_self _ h) (d.go g) (t.go g fun q hq => k q (List.mem_cons_of_mem _ hq))
theorem RowsN.snoc {Γ : Gam} {M : Addr → Prop} {H : Hp} {q : Addr} {vs : List V} {ds : List D} (h : H q = some (.lst vs)) (d : Dats Γ M H vs ds) : ∀ {r : RwN} {qs : List Addr}, RowsN Γ M H r qs → RowsN Γ M H (r ++ [ds]) (qs ++ [q])
  | _, _, .nil => .cons h d .nil
  | _, _, .cons h' d' t => .cons h' d' (t.snoc h d)
theorem RowsN.at {Γ : Gam} {M : Addr → Prop} {H : Hp} : ∀ {r : RwN} {qs : List Addr} {i : Nat}, RowsN Γ M H r qs → qs.Nodup → i < r.length →
    ∃ q vs ds, qs[i]? = some q ∧ r[i]? = some ds ∧ q ∈ qs ∧ H q = some (.lst vs) ∧ Dats Γ M H vs ds ∧ ∀ (M' : Addr → Prop) (H' : Hp) (v : V) (y : D), Go M H M' H' → (∀ p ∈ qs, p ≠ q → ∀ u, H p = some u → H' p = some u) → H' q = some (.lst (vs ++ [v])) → Dat Γ M' H' v y → RowsN Γ M' H' (r.set i (ds ++ [y])) qs
  | _, _, _, .nil, _, hi => absurd hi (Nat.not_lt_zero _)
  | _, _, 0, .cons (ds := ds) (q := q) (vs := vs) h d t, nd, _ => by
    obtain ⟨n1, n2⟩ := List.nodup_cons.mp nd
    refine ⟨q, vs, ds, rfl, rfl, List.mem_cons_self, h, d, fun M' H' v y g kp hq hv => ?_⟩
    exact .cons hq ((d.go g).append (.cons hv .nil)) (t.go g fun p hp => kp p (List.mem_cons_of_mem _ hp) fun z => n1 (z ▸ hp))
  | _, _, i + 1, .cons (q := q0) h d t, nd, hi => by
    obtain ⟨n1, n2⟩ := List.nodup_cons.mp nd
    obtain ⟨q, vs, ds, h1, h2, h3, h4, h5, h6⟩ := t.at n2 (i := i) (by simpa using hi)
    refine ⟨q, vs, ds, h1, h2, List.mem_cons_of_mem _ h3, h4, h5, fun M' H' v y g kp hq hv => ?_⟩
    exact .cons (kp q0 List.mem_cons_self (fun z => n1 (z ▸ h3)) _ h) (d.go g) (h6 M' H' v y g (fun p hp hn => kp p (List.mem_cons_of_mem _ hp) hn) hq hv)
structure GrpN (Γ : Gam) (w : Wd) (G0 : Addr → Prop) (H0 : Hp) (w' : Wd) (σ : St) (env : Env Γ) (ip : Nat) (p0 : Addr) (rows : RwN) (qs : List Addr) : Prop where
  er : ER Γ w' σ env
  st : Step w w'
  sp : σ[ip]? = some (some (.ref p0))
  hp : w'.H p0 = some (.lst (qs.map V.ref))
  rw : RowsN Γ w'.M w'.H rows qs
  nd : (p0 :: qs).Nodup
  m : ∀ a ∈ p0 :: qs, w'.M a
  off : ∀ a ∈ p0 :: qs, ∀ i, ¬ w'.F i a
  new : ∀ q ∈ qs, (∃ i, w.F i q) ∨ w.H q = none
  o0 : (∃ i, w.F i p0) ∨ w.H p0 = none
  go : Go G0 H0 w'.M w'.H
section
variable {Γ : Gam} {X : Cx} {G0 : Addr → Prop} {H0 : Hp} {w w' w2 : Wd} {σ σ2 : St} {env env2 : Env Γ} {ip : Nat} {p0 : Addr} {rows : RwN} {qs : List Addr}
theorem GrpN.live (g : GrpN Γ w G0 H0 w' σ env ip p0 rows qs) : ∀ a ∈ p0 :: qs, w'.H a ≠ none := fun a ha => g.er.dom a (g.m a ha)
theorem GrpN.next (g : GrpN Γ w G0 H0 w' σ env ip p0 rows qs) (dom : ∀ a, w.M a → w.H a ≠ none) (E : ER Γ w2 σ2 env2) (p : Step w' w2) (sp : σ2[ip]? = some (some (.ref p0))) : GrpN Γ w G0 H0 w2 σ2 env2 ip p0 rows qs where
  er := E
  st := g.st.trans p dom
  sp := sp
  hp := p.keep p0 _ (g.off p0 List.mem_cons_self) g.hp
  rw := g.rw.go (g.er.go p) fun q hq u e => p.keep q u (g.off q (List.mem_cons_of_mem _ hq)) e
  nd := g.nd
  m := fun a ha => p.mu a (g.off a ha) (g.m a ha)
  off := fun a ha => p.off (g.off a ha) (g.live a ha)
  new := g.new
  o0 := g.o0
  go := g.go.trans (g.er.go p)
theorem RowsN.kd {M M' : Addr → Prop} {H : Hp} (g : Go M H M' H) : ∀ {r : RwN} {qs : List Addr}, RowsN Γ M H r qs → (∀ q ∈ qs, ¬ M' q) → Dats Γ M' H (qs.map V.ref) (r.map D.lst)
  | _, _, .nil, _ => .nil
  | _, _, .cons h d t, n => .cons (.lst (n _ List.mem_cons_self) h (d.go g)) (t.kd g fun q hq => n q (List.mem_cons_of_mem _ hq))
end
section
variable {Γ : Gam} {X : Cx} {A A0 A1 : List Nat} {tg iter test ei e el : Expr} {stk : Stmt} {f0 : Ei Γ} {t : Eg Γ} {tt : Et Γ} {fi fe fl : Ev Γ} {b1 : Es Γ} {pos p1 p2 p3 p4 p5 p6 p7 p8 p9 pi : Pos} {ip : Nat} {xp : Str}
end
end G

set_option maxHeartbeats 4000000
namespace G
open PySem L2
section
variable {Γ : Gam} {X : Cx} {b : Expr} {fb : Ev Γ} {npos apos pos : Pos}
end
end G

set_option maxHeartbeats 4000000
namespace G
open PySem L2
section
variable {Γ : Gam} {P : Program} {w : World} {mg : Str → Option Value} {base : Heap} {x qual me pv : Str} {st : Stmt} {f : Addr} {fd : FuncData} {N : List Str} {k loc : Nat} {A : List Nat}
end
open Classical in
open Classical in
section
variable {X : Cx} {CX : CXT} {k : Nat} {C f : Addr} {sp : Sp} {E : St → XK} {o : Expr} {m : Str} {ta : TE} {t : TA} {pl : Sem Bool} {e : Expr} {es : List Expr} {apos pos : Pos}
end
section
variable {Γ : Gam} {X : Cx} {xc : Nat → Addr} {W : WX} {c : Nat} {x m : Str} {g : Fn Γ} {gz : Fz Γ} {e : Expr} {es : List Expr} {as : List (AE Γ)} {npos apos pos : Pos}
variable {P : Program} {j k : Nat}
end
end G

set_option maxHeartbeats 4000000
namespace G
open PySem L2
section
variable {Γ : Gam} {X : Cx} {xc : Nat → Addr} {A : List Nat} {fld nm x1 x2 xb s1 s2 : Str} {CM : Addr} {c1 c2 ie : Nat} {body : List Stmt} {f : Es Γ} {z : Ez Γ}
end
end G

set_option maxHeartbeats 4000000
namespace G
open PySem L2 PySem.Spec PyProof.Rows PySem.W
section
variable {X : Cx} {CX : CXT} {x n : Str} {C fI : Addr} {k : Nat} {fd : FuncData} {ps : List Str} {sp : Sp} {e : Expr} {es : List Expr} {ta : TA} {te : TE} {p pos : Pos}
end
section
variable {Γ : Gam} {X : Cx} {A : List Nat} {x fld xb xo nm pa : Str} {CB CM CO : Addr} {ok : V → Prop} {k l i j : Nat} {rest : List Stmt} {f : Es Γ}
end
end G

set_option maxHeartbeats 4000000
namespace G
open PySem L2 PySem.Spec PyProof.Rows
section
variable {X : Cx} {e1 e2 e3 : Expr} {ta : TA} {p pos tpos : Pos} {elts : List Expr} {kk : Nat}
end
section
variable {Γ : Gam} {X : Cx} {a b c : Expr} {f g h : Ev Γ} {pos : Pos}
end
end G

namespace G
open PySem L2 PySem.Spec PyProof.Rows
section
variable {Γ : Gam} {X : Cx} {a : Expr} {f : Ev Γ} {p pos tpos : Pos} {elts : List Expr} {kk : Nat}
end
end G

set_option maxHeartbeats 4000000
namespace G
open PySem L2
section
variable {Γ : Gam} {X : Cx} {xc : Nat → Addr} {W : WX} {A : List Nat} {fld nm x1 xb xn s1 s2 : Str} {CM CN : Addr} {c ie : Nat} {body : List Stmt} {q : Qs Γ}
end
end G

set_option maxHeartbeats 4000000
namespace G
open PySem L2
section
variable {Γ : Gam} {X : Cx} {xc : Nat → Addr} {W : WX} {e : Expr} {es : List Expr} {as : List (XA Γ)} {pos apos npos : Pos} {c np n : Nat} {g : Fx Γ} {m x : Str}
end
end G

set_option maxHeartbeats 1000000
namespace Asl
open PySem
/-- the sleeper that is stuck when it is woken -/
def cut : GenState → GenState
  | .suspended _ l c p fs cl => .suspended (fun _ => .unsupported "asleep") l c p fs cl
  | x => x
def isS : GenState → Bool
  | .suspended .. => true
  | _ => false
theorem cut_seen (x : GenState) : (cut x).seen = x.seen := by cases x <;> rfl
theorem cut_bare (x : GenState) : (cut x).bare = x.bare := by cases x <;> rfl
theorem isS_cut (x : GenState) : isS (cut x) = isS x := by cases x <;> rfl
/-- the sleepers of G0 put back -/
def pick (y? : Option GenState) (x : GenState) : GenState := match y? with
  | some y => if isS y then y else x
  | none => x
def back (G0 G : Array GenState) : Array GenState := G.mapIdx fun i x => pick G0[i]? x
theorem back_size (G0 G : Array GenState) : (back G0 G).size = G.size := by simp [back]
theorem back_get (G0 G : Array GenState) (i : Nat) : (back G0 G)[i]? = (G[i]?).map fun x => pick G0[i]? x := by simp [back, Array.getElem?_mapIdx]
def rho (G0 : Array GenState) (s : Shared) : Shared := { s with gens := back G0 s.gens }
/-- no sleeper -/
def Ns (G0 : Array GenState) (i : Nat) : Prop := ∀ y, G0[i]? = some y → isS y = false
theorem pick_ns {G0 : Array GenState} {i : Nat} (h : Ns G0 i) (x : GenState) : pick G0[i]? x = x := by
  unfold pick
  split
  · rename_i y e; rw [h y e]; rfl
  · rfl
/-- how the table of generators stands in the stuck run -/
structure Ok (G0 G : Array GenState) : Prop where
  sz : G0.size ≤ G.size
  sleep : ∀ (i : Nat) (y : GenState), G0[i]? = some y → isS y = true → G[i]? = some (cut y)
  plain : ∀ (i : Nat) k l c p fs cl, G[i]? = some (.suspended k l c p fs cl) → (∀ r, k r = .unsupported "asleep") ∨ splitAtGen fs = none
theorem Ok.start (G0 : Array GenState) : Ok G0 (G0.map cut) := by
  refine ⟨by simp, fun i y h _ => by simp [h], fun i k l c p fs cl h => ?_⟩
  rw [Array.getElem?_map] at h
  cases q : G0[i]? with
  | none => rw [q] at h; cases h
  | some y =>
    rw [q] at h
    cases y <;> simp [cut] at h
    exact .inl fun r => by rw [← h.1]
theorem back_start (G0 : Array GenState) : back G0 (G0.map cut) = G0 := by
  apply Array.ext_getElem?
  intro i
  rw [back_get, Array.getElem?_map]
  cases q : G0[i]? with
  | none => rfl
  | some y => cases y <;> rfl
theorem back_push {G0 G : Array GenState} (hsz : G0.size ≤ G.size) (x : GenState) : back G0 (G.push x) = (back G0 G).push x := by
  apply Array.ext_getElem?
  intro i
  rw [back_get, Array.getElem?_push, Array.getElem?_push, back_size, back_get]
  by_cases e : i = G.size
  · subst e
    rw [if_pos rfl, if_pos rfl, Option.map_some, pick_ns (fun y h => by rw [Array.getElem?_eq_none hsz] at h; cases h)]
  · rw [if_neg e, if_neg e]
theorem back_set {G0 G : Array GenState} {g : Nat} (hn : Ns G0 g) (x : GenState) : back G0 (G.setIfInBounds g x) = (back G0 G).setIfInBounds g x := by
  apply Array.ext_getElem?
  intro i
  rw [back_get]
  by_cases e : g = i
  · subst e
    rw [Array.getElem?_setIfInBounds_self, Array.getElem?_setIfInBounds_self, back_size]
    split
    · rw [Option.map_some, pick_ns hn]
    · rfl
  · rw [Array.getElem?_setIfInBounds_ne e, Array.getElem?_setIfInBounds_ne e, back_get]
theorem Ok.push {G0 G : Array GenState} (h : Ok G0 G) (c : Code) : Ok G0 (G.push (.fresh c)) := by
  refine ⟨by rw [Array.size_push]; exact Nat.le_succ_of_le h.sz, fun i y e hs => ?_, fun i k l c' p fs cl e => ?_⟩
  · have := h.sleep i y e hs
    rw [Array.getElem?_push, if_neg (Nat.ne_of_lt (Array.getElem?_eq_some_iff.mp this).1)]
    exact this
  · rw [Array.getElem?_push] at e
    split at e
    · cases e
    · exact h.plain i k l c' p fs cl e
theorem Ok.set {G0 G : Array GenState} (h : Ok G0 G) {g : Nat} (hn : Ns G0 g) {x : GenState} (hx : ∀ k l c p fs cl, x = .suspended k l c p fs cl → splitAtGen fs = none) : Ok G0 (G.setIfInBounds g x) := by
  refine ⟨by rw [Array.size_setIfInBounds]; exact h.sz, fun i y e hs => ?_, fun i k l c' p fs cl e => ?_⟩
  · have ne : g ≠ i := fun z => by subst z; rw [hn y e] at hs; cases hs
    rw [Array.getElem?_setIfInBounds_ne ne]
    exact h.sleep i y e hs
  · by_cases z : g = i
    · subst z
      rw [Array.getElem?_setIfInBounds_self] at e
      split at e
      · exact .inr (hx _ _ _ _ _ _ (Option.some.inj e))
      · cases e
    · rw [Array.getElem?_setIfInBounds_ne z] at e
      exact h.plain i k l c' p fs cl e
/-- one that is not asleep as it is wanted there -/
theorem Ok.ns {G0 G : Array GenState} (h : Ok G0 G) {g : Nat} {x : GenState} (e : G[g]? = some x) (hx : isS x = false) : Ns G0 g := fun y hy => by
  cases q : isS y with
  | false => rfl
  | true =>
    rw [h.sleep g y hy q] at e
    cases e
    rw [isS_cut, q] at hx; cases hx
theorem rho_get {G0 : Array GenState} {s : Shared} {g : Nat} (hn : Ns G0 g) : (rho G0 s).gens[g]? = s.gens[g]? := by
  show (back G0 s.gens)[g]? = _
  rw [back_get]
  cases s.gens[g]? with
  | none => rfl
  | some x => rw [Option.map_some, pick_ns hn]
theorem rho_setGen {G0 : Array GenState} {s : Shared} {g : Nat} (hn : Ns G0 g) (x : GenState) : rho G0 (s.setGen g x) = (rho G0 s).setGen g x := by
  show ({ s with gens := _ } : Shared) = { s with gens := _ }
  congr 1
  exact back_set hn x
theorem rho_seen {G0 : Array GenState} {s : Shared} {g : Nat} {st : GenState} (h : Ok G0 s.gens) (hg : s.gens[g]? = some st) : ∃ st', (rho G0 s).gens[g]? = some st' ∧ st'.seen = st.seen := by
  refine ⟨pick G0[g]? st, by show (back G0 s.gens)[g]? = _; rw [back_get, hg]; rfl, ?_⟩
  unfold pick
  split
  · rename_i y ey
    cases q : isS y with
    | false => rfl
    | true =>
      have := h.sleep g y ey q
      rw [hg] at this
      cases this
      exact (cut_seen y).symm
  · rfl
theorem no_runs {M : Model} {Γ : Ctx} {p : Pos} {t : Sem PySem.Fin} {fs : List Frame} {s s' : Shared} {e : End} {m : String} (h : Runs M Γ p t fs s e s') : t = .unsupported m → False := by
  induction h with
  | segRet h1 h2 ih1 ih2 => exact ih1
  | segGen h1 h2 ih1 ih2 => exact ih1
  | segSuspOut hs h1 ih1 => exact ih1
  | segSuspGen hs h1 hq h2 ih1 ih2 => exact ih1
  | _ => intro e; cases e
theorem split_ret {k h g l c p kp} {fs : List Frame} (q : splitAtGen (.ret k h g l c p kp :: fs) = none) : splitAtGen fs = none := by
  have q' : (splitAtGen fs).map _ = none := q
  rwa [Option.map_eq_none_iff] at q'
theorem split_app : ∀ {a b : List Frame}, splitAtGen a = none → splitAtGen b = none → splitAtGen (a ++ b) = none
  | [], _, _, h => h
  | .ret k h g l c p kp :: a, b, h1, h2 => by
    have : splitAtGen (a ++ b) = none := split_app (split_ret h1) h2
    show (splitAtGen (a ++ b)).map _ = none
    rw [this]; rfl
  | .gen g k l c p :: a, b, h1, _ => by cases h1
def Plain (e : End) : Prop := ∀ v g l k c p fs, e = .susp v g l k c p fs → splitAtGen fs = none
theorem plain_ret {r : Result} : Plain (.ret r) := fun _ _ _ _ _ _ _ h => by cases h
theorem plain_state {e : End} (h : Plain e) : ∀ k l c p fs cl, e.genState = .suspended k l c p fs cl → splitAtGen fs = none := by
  intro k l c p fs cl q
  cases e with
  | ret r => cases q
  | susp v g l' k' c' p' fs' =>
    cases q
    exact h _ _ _ _ _ _ _ rfl
/-- THE FRAME RULE of sleepers, for runs -/
theorem runs_back {M : Model} {G0 : Array GenState} {Γ : Ctx} {p : Pos} {t : Sem PySem.Fin} {fs : List Frame} {s s' : Shared} {e : End} (h : Runs M Γ p t fs s e s') :
    splitAtGen fs = none → Ok G0 s.gens → Ok G0 s'.gens ∧ Runs M Γ p t fs (rho G0 s) e (rho G0 s') ∧ Plain e := by
  induction h with
  | done => exact fun _ h => ⟨h, .done, plain_ret⟩
  | raise => exact fun _ h => ⟨h, .raise, plain_ret⟩
  | again hq _ ih => exact fun _ h => let ⟨a, b, c⟩ := ih rfl h; ⟨a, .again hq b, c⟩
  | rule _ ih => exact fun _ h => let ⟨a, b, c⟩ := ih rfl h; ⟨a, .rule b, c⟩
  | «at» _ ih => exact fun _ h => let ⟨a, b, c⟩ := ih rfl h; ⟨a, .at b, c⟩
  | load ho _ ih => exact fun _ h => let ⟨a, b, c⟩ := ih rfl h; ⟨a, .load ho b, c⟩
  | update ho _ ih => exact fun _ h => let ⟨a, b, c⟩ := ih rfl h; ⟨a, .update ho b, c⟩
  | loadIfAlive _ ih => exact fun _ h => let ⟨a, b, c⟩ := ih rfl h; ⟨a, .loadIfAlive b, c⟩
  | point _ ih => exact fun _ h => let ⟨a, b, c⟩ := ih rfl h; ⟨a, .point b, c⟩
  | alloc _ ih => exact fun _ h => let ⟨a, b, c⟩ := ih rfl h; ⟨a, .alloc b, c⟩
  | fresh _ ih => exact fun _ h => let ⟨a, b, c⟩ := ih rfl h; ⟨a, .fresh b, c⟩
  | ask _ ih => exact fun _ h => let ⟨a, b, c⟩ := ih rfl h; ⟨a, .ask b, c⟩
  | choose hn _ ih => exact fun _ h => let ⟨a, b, c⟩ := ih rfl h; ⟨a, .choose hn b, c⟩
  | os _ ih => exact fun _ h => let ⟨a, b, c⟩ := ih rfl h; ⟨a, .os b, c⟩
  | handled _ ih => exact fun _ h => let ⟨a, b, c⟩ := ih rfl h; ⟨a, .handled b, c⟩
  | stack _ ih => exact fun _ h => let ⟨a, b, c⟩ := ih rfl h; ⟨a, .stack b, c⟩
  | thread _ ih => exact fun _ h => let ⟨a, b, c⟩ := ih rfl h; ⟨a, .thread b, c⟩
  | genState hg _ ih =>
    intro _ h
    obtain ⟨a, b, c⟩ := ih rfl h
    obtain ⟨st', h1, h2⟩ := rho_seen h hg
    rw [← h2] at b
    exact ⟨a, .genState h1 b, c⟩
  | newGen _ ih =>
    intro _ h
    obtain ⟨a, b, c⟩ := ih rfl (h.push _)
    refine ⟨a, Runs.newGen ?_, c⟩
    have e : ∀ (s : Shared) (x : GenState), G0.size ≤ s.gens.size → rho G0 { s with gens := s.gens.push x } = { rho G0 s with gens := (rho G0 s).gens.push x } := fun s x hz => by
      show ({ s with gens := _ } : Shared) = { s with gens := _ }
      congr 1
      exact back_push hz x
    rw [e _ _ h.sz] at b
    rw [show (rho G0 _).gens.size = _ from back_size _ _]
    exact b
  | call _ _ ih1 ih2 =>
    intro _ h
    obtain ⟨a1, b1, _⟩ := ih1 rfl h
    obtain ⟨a, b, c⟩ := ih2 rfl a1
    exact ⟨a, .call b1 b, c⟩
  | callSusp _ ih =>
    intro _ h
    obtain ⟨a, b, c⟩ := ih rfl h
    refine ⟨a, .callSusp b, fun v g l k c0 p fs e => ?_⟩
    cases e
    exact split_app (c _ _ _ _ _ _ _ rfl) rfl
  | yield => exact fun _ h => ⟨h, .yield, fun v g l k c p fs e => by cases e; rfl⟩
  | resumeFresh hg h1 hq h2 ih1 ih2 =>
    intro _ h
    have hn := h.ns hg rfl
    obtain ⟨a1, b1, c1⟩ := ih1 rfl (h.set hn (x := .running) (fun _ _ _ _ _ _ z => by cases z))
    obtain ⟨a, b, c⟩ := ih2 rfl (a1.set hn (plain_state c1))
    rw [rho_setGen hn] at b1 b
    exact ⟨a, .resumeFresh ((rho_get hn).trans hg) b1 hq b, c⟩
  | @resumeSuspended _ _ g' _ _ _ _ _ _ _ _ _ _ _ _ _ _ hg h1 hq h2 ih1 ih2 =>
    intro _ h
    rcases h.plain _ _ _ _ _ _ _ hg with z | z
    · exact (no_runs h1 (z _)).elim
    by_cases hn : Ns G0 g'
    · obtain ⟨a1, b1, c1⟩ := ih1 z (h.set hn (x := .running) (fun _ _ _ _ _ _ z => by cases z))
      obtain ⟨a, b, c⟩ := ih2 rfl (a1.set hn (plain_state c1))
      rw [rho_setGen hn] at b1 b
      exact ⟨a, .resumeSuspended ((rho_get hn).trans hg) b1 hq b, c⟩
    · refine (hn fun y hy => ?_).elim
      cases q : isS y with
      | false => rfl
      | true =>
        have e := h.sleep _ y hy q
        rw [hg] at e
        cases y <;> cases q
        cases e
        exact (no_runs h1 rfl).elim
  | resumeJustStarted hg hv _ ih => exact fun _ h => let ⟨a, b, c⟩ := ih rfl h; ⟨a, .resumeJustStarted ((rho_get (h.ns hg rfl)).trans hg) hv b, c⟩
  | resumeThrowFresh hg _ ih =>
    intro _ h
    have hn := h.ns hg rfl
    obtain ⟨a, b, c⟩ := ih rfl (h.set hn (x := .finished) (fun _ _ _ _ _ _ z => by cases z))
    rw [rho_setGen hn] at b
    exact ⟨a, .resumeThrowFresh ((rho_get hn).trans hg) b, c⟩
  | resumeRunning hg _ ih => exact fun _ h => let ⟨a, b, c⟩ := ih rfl h; ⟨a, .resumeRunning ((rho_get (h.ns hg rfl)).trans hg) b, c⟩
  | resumeFinished hg _ ih => exact fun _ h => let ⟨a, b, c⟩ := ih rfl h; ⟨a, .resumeFinished ((rho_get (h.ns hg rfl)).trans hg) b, c⟩
  | segRet _ _ ih1 ih2 =>
    intro hf h
    obtain ⟨a1, b1, _⟩ := ih1 rfl h
    obtain ⟨a, b, c⟩ := ih2 (split_ret hf) a1
    exact ⟨a, .segRet b1 b, c⟩
  | segGen _ _ _ _ => intro hf; cases hf
  | segSuspOut hs _ ih =>
    intro hf h
    obtain ⟨a, b, c⟩ := ih rfl h
    refine ⟨a, .segSuspOut hs b, fun v g l k c0 p fs e => ?_⟩
    cases e
    exact split_app (c _ _ _ _ _ _ _ rfl) hs
  | segSuspGen hs _ _ _ _ _ => intro hf; rw [hf] at hs; cases hs
theorem wakes_back {M : Model} {G0 : Array GenState} {Γ : Ctx} {p : Pos} {g : Nat} {r : Resume} {s s' : Shared} {res : GenResult} (hw : Wakes M Γ p g r s res s') (h : Ok G0 s.gens) : Ok G0 s'.gens ∧ Wakes M Γ p g r (rho G0 s) res (rho G0 s') := by
  unfold Wakes at hw
  cases hg : s.gens[g]? with
  | none => rw [hg] at hw; exact hw.elim
  | some x =>
    rw [hg] at hw
    cases x with
    | fresh c =>
      have hn := h.ns hg rfl
      have hg' := (rho_get hn).trans hg
      have other : ∀ {res : GenResult}, (∀ v, v ≠ .none → r = .send v → res = .justStarted ∧ s' = s → Ok G0 s'.gens ∧ Wakes M Γ p g r (rho G0 s) res (rho G0 s')) := fun {res} v hv e ⟨e1, e2⟩ => by
        subst e; subst e1; subst e2
        refine ⟨h, ?_⟩
        unfold Wakes
        rw [hg']
        cases v <;> first | exact absurd rfl hv | exact ⟨rfl, rfl⟩
      cases r with
      | throw x =>
        obtain ⟨e1, e2⟩ := hw
        subst e1; subst e2
        refine ⟨h.set hn (x := .finished) (fun _ _ _ _ _ _ z => by cases z), ?_⟩
        unfold Wakes
        rw [hg']
        exact ⟨rfl, rho_setGen hn _⟩
      | send v =>
        cases v with
        | none =>
          obtain ⟨e1, s1, h1, hq, rfl, rfl⟩ := hw
          obtain ⟨a1, b1, c1⟩ := runs_back h1 rfl (h.set hn (x := .running) (fun _ _ _ _ _ _ z => by cases z))
          rw [rho_setGen hn] at b1
          refine ⟨a1.set hn (plain_state c1), ?_⟩
          unfold Wakes
          rw [hg']
          exact ⟨e1, _, b1, hq, rfl, rho_setGen hn _⟩
        | _ => exact other _ (fun z => by cases z) rfl hw
    | suspended k l c p' fs cl =>
      obtain ⟨e1, s1, h1, hq, rfl, rfl⟩ := hw
      rcases h.plain _ _ _ _ _ _ _ hg with z | z
      · exact (no_runs h1 (z _)).elim
      by_cases hn : Ns G0 g
      · obtain ⟨a1, b1, c1⟩ := runs_back h1 z (h.set hn (x := .running) (fun _ _ _ _ _ _ z => by cases z))
        rw [rho_setGen hn] at b1
        refine ⟨a1.set hn (plain_state c1), ?_⟩
        unfold Wakes
        rw [(rho_get hn).trans hg]
        exact ⟨e1, _, b1, hq, rfl, rho_setGen hn _⟩
      · refine (hn fun y hy => ?_).elim
        cases q : isS y with
        | false => rfl
        | true =>
          have e := h.sleep _ y hy q
          rw [hg] at e
          cases y <;> cases q
          cases e
          exact (no_runs h1 rfl).elim
    | running =>
      obtain ⟨e1, e2⟩ := hw
      subst e1; subst e2
      refine ⟨h, ?_⟩
      unfold Wakes
      rw [(rho_get (h.ns hg rfl)).trans hg]
      exact ⟨rfl, rfl⟩
    | finished =>
      obtain ⟨e1, e2⟩ := hw
      subst e1; subst e2
      refine ⟨h, ?_⟩
      unfold Wakes
      rw [(rho_get (h.ns hg rfl)).trans hg]
      exact ⟨rfl, rfl⟩
/-- .. for what is wanted behind -/
theorem wp_back {M : Model} {G0 : Array GenState} {α : Type} {Γ : Ctx} (t : Sem α) : ∀ {Q : α → Pos → Shared → Prop} {E : Value → Pos → Shared → Prop} {p : Pos} {s : Shared}, Ok G0 s.gens → Sem.wp M Γ t Q E p s →
    Sem.wp M Γ t (fun a p' s' => ∃ s1, Ok G0 s1.gens ∧ s' = rho G0 s1 ∧ Q a p' s1) (fun a p' s' => ∃ s1, Ok G0 s1.gens ∧ s' = rho G0 s1 ∧ E a p' s1) p (rho G0 s) := by
  induction t with
  | pure a => intro Q E p s hn h; exact ⟨s, hn, rfl, h⟩
  | raise e => intro Q E p s hn h; exact ⟨s, hn, rfl, h⟩
  | unsupported _ => intro Q E p s _ h; exact h
  | finish _ => intro Q E p s _ h; exact h
  | rule _ k ih => intro Q E p s hn h; exact ih () hn h
  | «at» p' k ih => intro Q E p s hn h; exact ih () hn h
  | load a _ k ih => intro Q E p s hn h; obtain ⟨o, ho, h⟩ := h; exact ⟨o, ho, ih o hn h⟩
  | update a _ f k ih => intro Q E p s hn h; exact ⟨h.1, ih () (s := { s with heap := s.heap.update a f }) hn h.2⟩
  | loadIfAlive a k ih => intro Q E p s hn h; exact ih _ hn h
  | point _ k ih => intro Q E p s hn h; exact ih () hn h
  | register _ _ => intro Q E p s _ h; exact h
  | alloc o k ih => intro Q E p s hn h; exact ih _ (s := { s with heap := s.heap.push o }) hn h
  | fresh k ih => intro Q E p s hn h; exact ih _ (s := { s with toks := s.toks + 1 }) hn h
  | ask k ih => intro Q E p s hn h; exact ih _ hn h
  | choose src m k ih => intro Q E p s hn h; exact ⟨h.1, ih _ (s := { s with drawn := s.drawn.bump src }) hn h.2⟩
  | os q _ k ih => intro Q E p s hn h; exact ih _ (s := { s with os := (Os.step s.os q).1 }) hn h
  | call c hd _ _ k ih =>
    intro Q E p s hn h
    obtain ⟨r, s', hr, h⟩ := h
    obtain ⟨a, b, _⟩ := runs_back hr rfl hn
    exact ⟨r, _, b, ih r a h⟩
  | handled own k ih => intro Q E p s hn h; exact ih _ hn h
  | genState g k ih =>
    intro Q E p s hn h
    obtain ⟨st, hs, h⟩ := h
    obtain ⟨st', h1, h2⟩ := rho_seen hn hs
    refine ⟨st', h1, ?_⟩
    rw [h2]; exact ih _ hn h
  | newGen c k ih =>
    intro Q E p s hn h
    have z := ih _ (s := { s with gens := s.gens.push (.fresh c) }) (hn.push c) h
    have e : rho G0 { s with gens := s.gens.push (.fresh c) } = { rho G0 s with gens := (rho G0 s).gens.push (.fresh c) } := by
      show ({ s with gens := _ } : Shared) = { s with gens := _ }
      congr 1
      exact back_push hn.sz _
    rw [e] at z
    show Sem.wp M Γ (k (rho G0 s).gens.size) _ _ p _
    rw [show (rho G0 s).gens.size = s.gens.size from back_size _ _]
    exact z
  | resume g r l k ih =>
    intro Q E p s hn h
    obtain ⟨res, s', hw, h⟩ := h
    obtain ⟨a, b⟩ := wakes_back hw hn
    exact ⟨res, _, b, ih res a h⟩
  | yield _ _ _ _ => intro Q E p s _ h; exact h
  | stack k ih => intro Q E p s hn h; exact ih _ hn h
  | fork _ _ => intro Q E p s _ h; exact h
  | thread k ih => intro Q E p s hn h; exact ih _ hn h
  | await _ _ _ _ _ => intro Q E p s _ h; exact h
/-- the state with all sleepers stuck -/
def stuck (s : Shared) : Shared := { s with gens := s.gens.map cut }
/-- what is known of a state behind a run amid sleepers: s1 is where the stuck run ended -/
def Amid (s s1 s' : Shared) : Prop := Ok s.gens s1.gens ∧ s' = rho s.gens s1
theorem wpAny_asleep {α : Type} {M : Model} {A : Around} {t : Sem α} {Q : α → Shared → Prop} {E : Value → Shared → Prop} {s : Shared} (h : wpAny M A t Q E (stuck s)) :
    wpAny M A t (fun a s' => ∃ s1, Amid s s1 s' ∧ Q a s1) (fun a s' => ∃ s1, Amid s s1 s' ∧ E a s1) s := by
  intro Γ p hΓ
  have z := wp_back (G0 := s.gens) t (s := stuck s) (Ok.start _) (h Γ p hΓ)
  have e : rho s.gens (stuck s) = s := by
    show ({ s with gens := back s.gens (s.gens.map cut) } : Shared) = s
    rw [back_start]
  rw [e] at z
  exact Sem.wp_mono M Γ t (fun a _ s' ⟨s1, h1, h2, h3⟩ => ⟨s1, ⟨h1, h2⟩, h3⟩) (fun a _ s' ⟨s1, h1, h2, h3⟩ => ⟨s1, ⟨h1, h2⟩, h3⟩) p s z
/-- a sleeper sleeps on -/
theorem Amid.same {s s1 s' : Shared} (h : Amid s s1 s') {g : Nat} {y : GenState} (e : s.gens[g]? = some y) (hs : isS y = true) : s'.gens[g]? = some y := by
  obtain ⟨h, rfl⟩ := h
  show (back s.gens s1.gens)[g]? = _
  rw [back_get, h.sleep g y e hs, Option.map_some, e]
  show some (if isS y = true then y else _) = _
  rw [if_pos hs]
end Asl

set_option maxHeartbeats 4000000
namespace G
open PySem L2
def trunc (h : Heap) (n : Nat) : Heap := ⟨h.objs.extract 0 n, h.life⟩
theorem trunc_size {h : Heap} {n : Nat} (e : n ≤ h.objs.size) : (trunc h n).objs.size = n := by
  show (h.objs.extract 0 n).size = n
  rw [Array.size_extract]; omega
theorem trunc_lt {h : Heap} {n b : Nat} (e : b < n) : (trunc h n).get? b = h.get? b := by
  unfold Heap.get?
  have : (trunc h n).objs[b]? = h.objs[b]? := by
    show (h.objs.extract 0 n)[b]? = _
    rw [Array.getElem?_extract]
    by_cases q : b < h.objs.size
    · rw [if_pos (by omega)]; simp
    · rw [if_neg (by omega), Array.getElem?_eq_none (by omega)]
  rw [this]
theorem trunc_some {h : Heap} {n b : Nat} {o : Obj} (hn : n ≤ h.objs.size) (e : (trunc h n).get? b = some o) : b < n ∧ h.get? b = some o := by
  have l : b < n := by
    have := Heap.lt_size e
    rwa [trunc_size hn] at this
  exact ⟨l, by rwa [trunc_lt l] at e⟩
def truncS (s : Shared) (n : Nat) : Shared := { s with heap := trunc s.heap n }

/-- what the asker hands over at a wake: the generator's world, its own young things, its own slots -/
structure WD (Γ : Gam) where
  w : Wd
  ep : List (Addr × Obj)
  c : Env Γ
/-- a generator that runs: where, for whom (C: what is known of the asker; yl: what the asker does with a value; KX: what is wanted of an error) -/
structure GP (Γ : Gam) where
  P : Program
  w : World
  mg : Str → Option Value
  base : Heap
  N : List Str
  qual : Str
  scope : Scope
  f : Addr
  cd : Value
  A : Around
  outer : List PySem.Env
  sz : Nat
  pn : List (Addr × Obj)
  xc : Nat → Addr
  C : Nat → Shared → WD Γ → Prop
  yl : D → Nat → Env Γ → Env Γ → (Env Γ → Env Γ → Prop) → Prop
  KX : Er → Env Γ → Env Γ → Prop
  lent : List (Nat × V)
section
variable {Γ : Gam}
def GP.env (g : GP Γ) : PySem.Env := PyProof.Rows.envOfC g.qual g.scope g.sz g.f g.cd
def GP.E (g : GP Γ) (wd : WD Γ) : XK := fun cls d H' => ∃ x dx w' σ' env', g.KX x env' wd.c ∧ cls = .ref (g.xc x.c) ∧ d = dxo x dx ∧ w'.H = H' ∧ Step wd.w w' ∧ XR Γ w' dx x ∧ ER Γ w' σ' env' ∧ ∀ p ∈ g.lent, σ'[p.1]? = some (some p.2)
def GP.cx (g : GP Γ) (s₀ : Shared) (wd : WD Γ) : Cx where
  prog := g.P
  w := g.w
  K := Γ.K
  mg := g.mg
  base := g.base
  A := g.A.deeper g.env
  N := g.N
  s_0 := truncS s₀ g.sz
  H_0 := wd.w.H
  env := g.env
  outer := g.outer
  stack := g.env :: g.outer
  ex := []
  fn := fun _ => true
  calm := true
  pn := g.pn
  xe := fun e s' => wpAny (model g.P g.w) (g.A.deeper g.env) (leaving g.env e) (fun _ s'' => L2.CX g.P g.w g.outer wd.w.H (truncS s₀ g.sz) (g.E wd) e s'' ∧ ∀ p ∈ g.pn, s''.heap.get? p.1 = some p.2) (fun _ _ => False) s'
/-- the generator's own things -/
def Priv (g : GP Γ) (ip : List (Addr × Obj)) (b : Addr) : Prop := b = g.sz ∨ (∃ x, g.env.cells.lookup x = some b) ∨ ∃ p ∈ g.pn ++ ip, p.1 = b
/-- it runs, woken last with wd at s₀ -/
structure GAt (g : GP Γ) (s₀ : Shared) (wd : WD Γ) (ip : List (Addr × Obj)) (σ : St) (w : Wd) (env : Env Γ) (s : Shared) : Prop where
  sz : g.sz ≤ s₀.heap.objs.size
  inv : Inv (g.cx s₀ wd) (wd.ep ++ ip) σ w.H s
  er : ER Γ w σ env
  st : Step wd.w w
  dom : ∀ a, wd.w.M a → wd.w.H a ≠ none
  apart : ∀ p ∈ wd.ep, ¬ Priv g ip p.1
  yip : ∀ p ∈ g.pn ++ ip, g.sz ≤ p.1
  lt : ∀ p ∈ g.lent, σ[p.1]? = some (some p.2)
/-- what it asks to find at a wake -/
structure Wk (g : GP Γ) (ip : List (Addr × Obj)) (σ : St) (w : Wd) (s : Shared) (wd' : WD Γ) (env' : Env Γ) (s' : Shared) : Prop where
  os : s'.os = s.os
  bare : PyProof.Rows.AllBare s'.gens
  size : g.sz ≤ s'.heap.objs.size
  base : ∀ b o, g.base.get? b = some o → s'.heap.get? b = some o ∧ wd'.w.H b = none
  funs : s'.heap.FunFrames g.base g.outer
  frf : ∀ b ∈ frs g.outer, wd'.w.H b = none
  hok : HOk g.P g.w wd'.w.H s'.heap
  priv : ∀ b, Priv g ip b → ∀ o, s.heap.get? b = some o → s'.heap.get? b = some o ∧ wd'.w.H b = none
  ep : ∀ p ∈ wd'.ep, s'.heap.get? p.1 = some p.2 ∧ wd'.w.H p.1 = none ∧ ¬ Priv g ip p.1 ∧ p.1 ∉ frs g.outer ∧ ∀ v, p.2.data ≠ .cell v
  go : Go w.M w.H wd'.w.M wd'.w.H
  er : ER Γ wd'.w σ env'
theorem funFrames_at {base h h' : Heap} {n : Nat} : ∀ {l : List PySem.Env}, h.FunFrames base l → (∀ L ∈ frs l, h'.get? L = h.get? L) → h'.FunFrames base l
  | [], _, _ => trivial
  | env :: l, ⟨hk, ⟨L, o, hf, hn, ho, hd⟩, hr⟩, k => by
    refine ⟨hk, ⟨L, o, hf, hn, ?_, hd⟩, funFrames_at (n := n) hr fun b hb => k b ?_⟩
    · rw [k L (by unfold frs; rw [List.filterMap_cons, hf]; exact List.mem_cons_self)]; exact ho
    · unfold frs
      rw [List.filterMap_cons, hf]
      exact List.mem_cons_of_mem _ hb
theorem ER.woke {w w' : Wd} {σ : St} {env : Env Γ} (E : ER Γ w σ env) (hF : w'.F = w.F) (keep : ∀ a u, (¬ w.M a ∨ ∃ i, w.F i a) → w.H a = some u → w'.H a = some u) (stay : ∀ a, ¬ w.M a → w.H a ≠ none → ¬ w'.M a) (sub : ∀ i a, w.F i a → w'.M a) (dom : ∀ a, w'.M a → w'.H a ≠ none) : ER Γ w' σ env := by
  refine ⟨E.len, fun i s e => ?_, fun i a f => sub i a (by rwa [hF] at f), fun i j a f1 f2 => E.dis i j a (by rwa [hF] at f1) (by rwa [hF] at f2), dom, fun i hi a f => E.out i hi a (by rwa [hF] at f)⟩
  rcases E.slot i s e with ⟨e1, n⟩ | ⟨v, e1, r⟩
  · exact .inl ⟨e1, fun a f => n a (by rwa [hF] at f)⟩
  · refine .inr ⟨v, e1, ?_⟩
    rw [hF]
    exact r.go ⟨fun a u n e => keep a u (.inl n) e, stay⟩ fun a u f e => keep a u (.inr ⟨i, f⟩) e
/-- woken again -/
theorem GAt.woken {g : GP Γ} {s₀ s s' : Shared} {wd wd' : WD Γ} {ip : List (Addr × Obj)} {σ : St} {w : Wd} {env env' : Env Γ} (h : GAt g s₀ wd ip σ w env s) (k : Wk g ip σ w s wd' env' s') : GAt g s' wd' ip σ wd'.w env' s' := by
  obtain ⟨hsz, I, E, st, dom, ap, yp, lt⟩ := h
  have s0 : (g.cx s₀ wd).s_0.heap.objs.size = g.sz := trunc_size hsz
  have bl : ∀ b o, g.base.get? b = some o → b < g.sz := fun b o e => Nat.lt_of_lt_of_le (Heap.lt_size e) (by have := I.ok.bsz; rwa [s0] at this)
  have frl : ∀ L ∈ frs g.outer, L < g.sz := fun L hL => by
    obtain ⟨_, o, ho, _⟩ := I.ok.funs.mem hL
    exact (trunc_some hsz ho).1
  have pL := fun o e => (k.priv g.sz (.inl rfl) o e)
  have pC : ∀ x c, g.env.cells.lookup x = some c → ∀ o, s.heap.get? c = some o → s'.heap.get? c = some o ∧ wd'.w.H c = none := fun x c e o eo => k.priv c (.inr (.inl ⟨x, e⟩)) o eo
  have t0 : (g.cx s' wd').s_0.heap.objs.size = g.sz := trunc_size k.size
  refine ⟨k.size, ⟨⟨I.ok.mod, I.ok.kind, I.ok.glob, I.ok.blt, Nat.le_of_eq t0, I.ok.inj, I.ok.has, fun x c h1 h2 => ?_, I.ok.hd, I.ok.frames, .inr ⟨rfl, rfl⟩, fun b z => absurd (show b ∈ ([] : List Addr) from z) (by simp), fun b o e => ⟨?_, (k.base b o e).2⟩, ?_, fun b o _ z => absurd (show b ∈ ([] : List Addr) from z) (by simp), fun b z => absurd (show b ∈ ([] : List Addr) from z) (by simp), ?_, k.frf⟩,
    rfl, k.bare, ?_, ?_, fun x c e => ?_, ?_, fun x c e => ?_, fun p hp => ?_, k.hok, I.len⟩, k.er, Step.refl _, k.er.dom, fun p hp => (k.ep p hp).2.2.1, yp, lt⟩
  · have := I.ok.cab x c h1 h2
    rw [s0] at this
    rw [t0]; exact this
  · exact (trunc_lt (bl b o e)).trans (k.base b o e).1
  · have := I.ok.bsz
    rw [s0] at this
    rw [t0]; exact this
  · exact funFrames_at (n := 0) k.funs fun L hL => trunc_lt (frl L hL)
  · exact Un.kept fun b u e => (trunc_some k.size e).2
  · obtain ⟨m, ⟨o, es, ep, ho, r⟩, hl⟩ := I.loc
    refine ⟨m, ⟨o, es, ep, (pL o ho).1, r⟩, fun i x v e1 e2 e3 => ?_⟩
    obtain ⟨u, ru, l⟩ := hl i x v e1 e2 e3
    refine ⟨u, ru, ?_⟩
    rcases l with l | ⟨kk, c, e, oc, hoc, hd⟩
    · exact .inl l
    · exact .inr ⟨kk, c, e, oc, (pC x c e oc hoc).1, hd⟩
  · obtain ⟨v, oc, hoc, hd⟩ := I.cell x c e
    exact ⟨v, oc, (pC x c e oc hoc).1, hd⟩
  · obtain ⟨m, ⟨o, es, ep, ho, r⟩, hl⟩ := I.loc
    exact (pL o ho).2
  · obtain ⟨v, oc, hoc, hd⟩ := I.cell x c e
    exact (pC x c e oc hoc).2
  · have own : ∀ p ∈ g.pn ++ ip, s'.heap.get? p.1 = some p.2 ∧ wd'.w.H p.1 = none ∧ p.1 ≠ g.env.locals ∧ p.1 ∉ frs g.outer ∧ ∀ v, p.2.data ≠ .cell v := fun p hp => by
      obtain ⟨h1, h2, h3, h4, h5⟩ := I.pin p (by
        rcases List.mem_append.mp hp with z | z
        · exact List.mem_append_left _ z
        · exact List.mem_append_right _ (List.mem_append_right _ z))
      obtain ⟨q1, q2⟩ := k.priv p.1 (.inr (.inr ⟨p, hp, rfl⟩)) p.2 h1
      exact ⟨q1, q2, h3, h4, h5⟩
    rcases List.mem_append.mp hp with z | z
    · exact own p (List.mem_append_left _ z)
    · rcases List.mem_append.mp z with z | z
      · obtain ⟨q1, q2, q3, q4, q5⟩ := k.ep p z
        exact ⟨q1, q2, fun e => q3 (.inl e), q4, q5⟩
      · exact own p (List.mem_append_right _ z)
end
end G

set_option maxHeartbeats 4000000
namespace G
open PySem L2
abbrev GYl (Γ : Gam) := D → Nat → Env Γ → Env Γ → (Env Γ → Env Γ → Prop) → Prop
/-- the generator's slots, how many values may still come, the asker's slots; what is wanted behind; what is wanted of an error; what the asker does with a value -/
abbrev Qg (Γ : Gam) := Env Γ → Nat → Env Γ → (Fl Γ → Nat → Env Γ → Env Γ → Prop) → (Er → Env Γ → Env Γ → Prop) → GYl Γ → Prop
def gPl {Γ : Gam} (q : Qs Γ) : Qg Γ := fun e n c K KX _ => q e (fun fl e' => (∀ x, fl ≠ .rt x) ∧ K fl n e' c) (fun x e' => KX x e' c)
def gYield {Γ : Gam} (q : Qe Γ) : Qg Γ := fun e n c K KX yl => ∃ n', n = n' + 1 ∧ q e (fun s e' => ∃ d, s = .dat d ∧ yl d n' e' c fun e2 c' => K .nx n' e2 c') (fun x e' => KX x e' c)
def gNx {Γ : Gam} : Qg Γ := fun e n c K _ _ => K .nx n e c
def gSeq {Γ : Gam} (p q : Qg Γ) : Qg Γ := fun e n c K KX yl => p e n c (fun fl n' e' c' => match fl with
  | .nx => q e' n' c' K KX yl
  | fl => K fl n' e' c') KX yl
def gLoop {Γ : Gam} (again : Nat → Env Γ → Env Γ → Prop) (K : Fl Γ → Nat → Env Γ → Env Γ → Prop) : Fl Γ → Nat → Env Γ → Env Γ → Prop := fun fl n e c => match fl with
  | .nx => again n e c
  | .ct => again n e c
  | .bk => K .nx n e c
  | .rt _ => False
def gWhB {Γ : Gam} (t : Qt Γ) (q : Qg Γ) (K : Fl Γ → Nat → Env Γ → Env Γ → Prop) (KX : Er → Env Γ → Env Γ → Prop) (yl : GYl Γ) : Nat → Nat → Env Γ → Env Γ → Prop
  | 0, _, _, _ => False
  | m + 1, n, e, c => t e (fun b e1 => if b = true then q e1 n c (gLoop (gWhB t q K KX yl m) K) KX yl else K .nx n e1 c) (fun x e' => KX x e' c)
def gWhile {Γ : Gam} (t : Qt Γ) (q : Qg Γ) : Qg Γ := fun e n c K KX yl => ∃ m, gWhB t q K KX yl m n e c
def gForB {Γ : Gam} (nxt : Nxt Γ) (len : Nat) (t : Eg Γ) (q : Qg Γ) (K : Fl Γ → Nat → Env Γ → Env Γ → Prop) (KX : Er → Env Γ → Env Γ → Prop) (yl : GYl Γ) : Nat → Nat → Env Γ → Env Γ → Prop
  | 0, n, e, c => nxt len e = some none ∧ K .nx n e c
  | m + 1, n, e, c => ∃ d, nxt (len - (m + 1)) e = some (some d) ∧ ∃ e1, t d e = some e1 ∧ q e1 n c (gLoop (gForB nxt len t q K KX yl m) K) KX yl
def gFor {Γ : Gam} (qi : Qi Γ) (t : Eg Γ) (q : Qg Γ) : Qg Γ := fun e n c K KX yl => qi e (fun nxt len e1 => gForB nxt len t q K KX yl len n e1 c) (fun x e' => KX x e' c)
section
variable {Γ : Gam}
def flw : Fl Γ → Flow
  | .nx => .next
  | .bk => .brk
  | .ct => .cont
  | .rt _ => .next
/-- a value is handed out; what is to hold at the wake -/
def GYq (g : GP Γ) : Protocol := fun n s₀ v s kap => ∃ wd ip σ w env d x kd, g.C (n + 1) s₀ wd ∧ GAt g s₀ wd ip σ w env s ∧ RelV x v ∧ Dat Γ w.M w.H x d ∧ g.yl d n env wd.c kd ∧
  ∀ s' wd' env', g.C n s' wd' → kd env' wd'.c → Wk g ip σ w s wd' env' s' → kap (.send .none) s'
structure GCt (g : GP Γ) (Ar : Around) (c : Code) (fs : List Frame) (gd : Bool → Bool) : Prop where
  over : Ar.over c fs = g.A.deeper g.env
  split : splitAtGen fs = none
  guard : fs.any Frame.guarded = false
  gd : gd false = false
structure GOk (g : GP Γ) : Prop where
  un : (g.A.deeper g.env).units + 65 < cLine
  nd : g.N.Nodup
  co : g.scope.isCoroutine = false
  int : interactive g.env = false
theorem GOk.gd {g : GP Γ} (h : GOk g) (s₀ : Shared) (wd : WD Γ) : Gd Γ (g.cx s₀ wd) := ⟨rfl, rfl, h.un, h.nd⟩
structure GKt (g : GP Γ) (ip : List (Addr × Obj)) (Ar : Around) (R : GenEnd) (c : Code) (fs : List Frame) (Kc : Flow → Sem PySem.Fin) (J : Value → Sem PySem.Fin) (w0 : Wd) (K : Fl Γ → Nat → Env Γ → Env Γ → Prop) : Prop where
  ok : ∀ (n : Nat) (s₀ : Shared) (wd : WD Γ) (σ : St) (w : Wd) (env : Env Γ) (s : Shared) (fl : Fl Γ), g.C n s₀ wd → GAt g s₀ wd ip σ w env s → Go w0.M w0.H w.M w.H → (∀ x, fl ≠ .rt x) → K fl n env wd.c → Seg (model g.P g.w) Ar R (GYq g) n s₀ c (Kc (flw fl)) fs s
  exc : ∀ (n : Nat) (s₀ : Shared) (wd : WD Γ) (e : Value) (s : Shared), g.C n s₀ wd → (g.cx s₀ wd).xe e s → Seg (model g.P g.w) Ar R (GYq g) n s₀ c (J e) fs s
structure GSt (g : GP Γ) (m : Sem Flow) (q : Qg Γ) : Prop where
  run : ∀ (Ar : Around) (R : GenEnd) (n : Nat) (s₀ : Shared) (c : Code) (fs : List Frame) (Kc : Flow → Sem PySem.Fin) (J : Value → Sem PySem.Fin) (gd : Bool → Bool) (lv : List Value → List Value) (ip : List (Addr × Obj)) (σ : St) (w : Wd) (env : Env Γ) (s : Shared) (wd : WD Γ) (K : Fl Γ → Nat → Env Γ → Env Γ → Prop),
    GCt g Ar c fs gd → g.C n s₀ wd → GAt g s₀ wd ip σ w env s → q env n wd.c K g.KX g.yl → GKt g ip Ar R c fs Kc J w K → Seg (model g.P g.w) Ar R (GYq g) n s₀ c (m.wrap Kc J gd lv) fs s
abbrev gW (g : GP Γ) (wd : WD Γ) : WX := fun cls d _ H' => g.E wd cls d H'
variable {g : GP Γ} {A : List Nat}
theorem GAt.step {s₀ s s' : Shared} {wd : WD Γ} {ip : List (Addr × Obj)} {σ σ' : St} {w w' : Wd} {env env' : Env Γ} (h : GAt g s₀ wd ip σ w env s) (I : Inv (g.cx s₀ wd) (wd.ep ++ ip) σ' w'.H s') (E : ER Γ w' σ' env') (p : Step w w') (l : ∀ p ∈ g.lent, σ'[p.1]? = some (some p.2)) : GAt g s₀ wd ip σ' w' env' s' :=
  ⟨h.sz, I, E, h.st.trans p h.dom, h.dom, h.apart, h.yip, l⟩
theorem lent_agree {σ σ' : St} (hA : ∀ p ∈ g.lent, p.1 ∉ A) (l : ∀ p ∈ g.lent, σ[p.1]? = some (some p.2)) (a : Agree A σ σ') : ∀ p ∈ g.lent, σ'[p.1]? = some (some p.2) := fun p hp => (a.get p.1 (hA p hp)).trans (l p hp)
theorem gw_err {s₀ s : Shared} {wd : WD Γ} {ip : List (Addr × Obj)} {σ σ1 : St} {w w1 : Wd} {env : Env Γ} (hA : ∀ p ∈ g.lent, p.1 ∉ A) (h : GAt g s₀ wd ip σ w env s) (p1 : Step w w1) (a1 : Agree A σ σ1) : ∀ x (env' : Env Γ), g.KX x env' wd.c → ZPost Γ g.xc A σ1 w1 (gW g wd) x env' := fun x env' hk σ' w' dx E' p' a' xr =>
  ⟨x, dx, w', σ', env', hk, rfl, rfl, rfl, (h.st.trans p1 h.dom).trans p' h.dom, xr, E', lent_agree hA h.lt (a1.trans a')⟩
theorem gw_errE {s₀ s : Shared} {wd : WD Γ} {ip : List (Addr × Obj)} {σ : St} {w w1 : Wd} {env : Env Γ} (h : GAt g s₀ wd ip σ w env s) (p1 : Step w w1) : ∀ x (env' : Env Γ), g.KX x env' wd.c → ZPostE Γ g.xc σ w1 (gW g wd) x env' := fun x env' hk w' dx E' p' xr =>
  ⟨x, dx, w', σ, env', hk, rfl, rfl, rfl, (h.st.trans p1 h.dom).trans p' h.dom, xr, E', h.lt⟩
def gD (g : GP Γ) (A : List Nat) (σ : St) (w : Wd) (n : Nat) (wd : WD Γ) (K : Fl Γ → Nat → Env Γ → Env Γ → Prop) : Ends where
  nx := fun σ' H' => ∃ w' env', w'.H = H' ∧ ER Γ w' σ' env' ∧ Step w w' ∧ Agree A σ σ' ∧ K .nx n env' wd.c
  bk := fun σ' H' => ∃ w' env', w'.H = H' ∧ ER Γ w' σ' env' ∧ Step w w' ∧ Agree A σ σ' ∧ K .bk n env' wd.c
  ct := fun σ' H' => ∃ w' env', w'.H = H' ∧ ER Γ w' σ' env' ∧ Step w w' ∧ Agree A σ σ' ∧ K .ct n env' wd.c
  rt := fun _ _ => False
theorem gst_of {m : Sem Flow} {q : Qs Γ} (hA : ∀ p ∈ g.lent, p.1 ∉ A) (h : ∀ (s₀ : Shared) (wd : WD Γ) (σ : St) (env : Env Γ) (w : Wd) (K : Fl Γ → Env Γ → Prop) (KX : Er → Env Γ → Prop) (D : Ends), q env K KX → ER Γ w σ env → (∀ fl env', K fl env' → Post Γ A σ w D fl env') → (∀ x env', KX x env' → ZPost Γ g.xc A σ w (gW g wd) x env') →
    ∀ pins s, Inv (g.cx s₀ wd) pins σ w.H s → wpAny (model g.P g.w) (g.A.deeper g.env) m (SP (g.cx s₀ wd) pins D) (g.cx s₀ wd).xe s) : GSt g m (gPl q) := by
  refine ⟨fun Ar R n s₀ c fs Kc J gd lv ip σ w env s wd K gc hC G hq k => ?_⟩
  refine seg_wrap ?_
  rw [gc.over]
  refine wpAny_mono (h s₀ wd σ env w _ _ (gD g A σ w n wd K) hq G.er (fun fl env' hk => ?_) (fun x env' hk => gw_err (A := A) hA G (Step.refl w) Agree.refl x env' hk) (wd.ep ++ ip) s G.inv) (fun f s' hs => ?_) fun x s' hx => k.exc n s₀ wd x s' hC hx
  · cases fl with
    | nx => exact fun σ' w' E p a => ⟨w', env', rfl, E, p, a, hk.2⟩
    | bk => exact fun σ' w' E p a => ⟨w', env', rfl, E, p, a, hk.2⟩
    | ct => exact fun σ' w' E p a => ⟨w', env', rfl, E, p, a, hk.2⟩
    | rt x => exact (hk.1 x rfl).elim
  · cases f with
    | next => obtain ⟨σ', H', I', w', env', rfl, E, p, a, q⟩ := hs; exact k.ok n s₀ wd σ' w' env' s' .nx hC (G.step I' E p (lent_agree hA G.lt a)) (G.er.go p) (fun _ z => by cases z) q
    | brk => obtain ⟨σ', H', I', w', env', rfl, E, p, a, q⟩ := hs; exact k.ok n s₀ wd σ' w' env' s' .bk hC (G.step I' E p (lent_agree hA G.lt a)) (G.er.go p) (fun _ z => by cases z) q
    | cont => obtain ⟨σ', H', I', w', env', rfl, E, p, a, q⟩ := hs; exact k.ok n s₀ wd σ' w' env' s' .ct hC (G.step I' E p (lent_agree hA G.lt a)) (G.er.go p) (fun _ z => by cases z) q
    | ret v => obtain ⟨x, σ', H', I', r, z⟩ := hs; exact z.elim
theorem gst_pl (ok : GOk g) (hA : ∀ p ∈ g.lent, p.1 ∉ A) {st : Stmt} {q : Qs Γ} (h : ∀ s₀ wd, SdXS Γ (g.cx s₀ wd) g.xc (gW g wd) A st q) : GSt g (exec st g.env) (gPl q) := gst_of (A := A) hA fun s₀ wd σ env w K KX D hq E k kx pins s I => (h s₀ wd).run (ok.gd s₀ wd) σ env w K KX D hq E k kx pins s I
theorem gst_nil : GSt g (execs [] g.env) gNx := ⟨fun Ar R n s₀ c fs Kc J gd lv ip σ w env s wd K gc hC G hq k => seg_execs_nil (k.ok n s₀ wd σ w env s .nx hC G (Go.refl _ _) (fun _ z => by cases z) hq)⟩
theorem gst_cons {st : Stmt} {rest : List Stmt} {p q : Qg Γ} (h1 : GSt g (exec st g.env) p) (h2 : GSt g (execs rest g.env) q) : GSt g (execs (st :: rest) g.env) (gSeq p q) := by
  refine ⟨fun Ar R n s₀ c fs Kc J gd lv ip σ w env s wd K gc hC G hq k => ?_⟩
  refine seg_execs_cons ?_
  refine h1.run Ar R n s₀ c fs _ J gd lv ip σ w env s wd _ gc hC G hq ⟨fun n' s₀' wd' σ' w' env' s' fl hC' G' go hf hk => ?_, k.exc⟩
  cases fl with
  | nx => exact h2.run Ar R n' s₀' c fs Kc J gd lv ip σ' w' env' s' wd' K gc hC' G' hk ⟨fun n3 s₀3 wd3 σ3 w3 env3 s3 fl3 hC3 G3 go3 => k.ok n3 s₀3 wd3 σ3 w3 env3 s3 fl3 hC3 G3 (go.trans go3), k.exc⟩
  | bk => exact k.ok n' s₀' wd' σ' w' env' s' .bk hC' G' go hf hk
  | ct => exact k.ok n' s₀' wd' σ' w' env' s' .ct hC' G' go hf hk
  | rt x => exact (hf x rfl).elim
theorem gst_yield (ok : GOk g) {e : Expr} {yp pos : Pos} {q : Qe Γ} (h : ∀ s₀ wd, SdX Γ (g.cx s₀ wd) g.xc (gW g wd) e q) : GSt g (exec (.Expr (.Yield (some e) yp) pos) g.env) (gYield q) := by
  refine ⟨fun Ar R n s₀ c fs Kc J gd lv ip σ w env s wd K gc hC G hq k => ?_⟩
  obtain ⟨n, rfl, hq⟩ := hq
  refine seg_Expr_Yield gc.split gc.gd gc.guard ?_ ok.co ok.int
  rw [gc.over]
  have run : wE (g.cx s₀ wd) e σ w.H _ := (h s₀ wd).run (ok.gd s₀ wd) σ env w _ _ (fun x H' => ∃ w' env' d, w'.H = H' ∧ ER Γ w' σ env' ∧ Step w w' ∧ Dat Γ w'.M w'.H x d ∧ g.yl d n env' wd.c fun e2 c' => K .nx n e2 c') hq G.er
    (fun r env' v w' Fr hk E' T' p' f' => by
      obtain ⟨d, rfl, hy⟩ := hk
      exact ⟨w', env', d, rfl, E', p', T'.rep.1, hy⟩) (fun x env' hk => gw_errE G (Step.refl w) x env' hk)
  refine wpAny_mono (run (wd.ep ++ ip) s G.inv) (fun v s' hv => ?_) fun x s' hx => k.exc (n + 1) s₀ wd x s' hC hx
  obtain ⟨x, H1, I1, rv, w', env', d, rfl, E', p', dx, hy⟩ := hv
  have G1 := G.step I1 E' p' G.lt
  intro kap hk
  refine ⟨wd, ip, σ, w', env', d, x, _, hC, G1, rv, dx, hy, fun s'' wd' env2 hC' hkd hw => hk .none s'' ?_⟩
  exact k.ok n s'' wd' σ wd'.w env2 s'' .nx hC' (G1.woken hw) ((G.er.go p').trans hw.go) (fun _ z => by cases z) hkd
end
end G

set_option maxHeartbeats 4000000
namespace G
open PySem L2
section
variable {Γ : Gam} {g : GP Γ} {A : List Nat}
theorem gp_owns (g : GP Γ) (s₀ : Shared) (wd : WD Γ) : PassesOwn (model g.P g.w) (g.A.deeper g.env) g.env (g.cx s₀ wd).xe :=
  passes_of (X := g.cx s₀ wd) (K := fun e s'' => L2.CX g.P g.w g.outer wd.w.H (truncS s₀ g.sz) (g.E wd) e s'' ∧ ∀ p ∈ g.pn, s''.heap.get? p.1 = some p.2) (E₁ := fun _ _ => False) rfl
theorem gct_loop {Ar : Around} {c c' : Code} {fs : List Frame} {gd : Bool → Bool} {k : Result → Sem PySem.Fin} {l kp : List Value} {p : Pos} (h : GCt g Ar c fs gd) (hw : c'.weight = 0) (hu : c'.cUnits = 0) : GCt g Ar c' (.ret k none (gd false) l c p kp :: fs) id where
  over := (GenW.over_loop hw hu).trans h.over
  split := by
    show (splitAtGen fs).map _ = none
    rw [h.split]; rfl
  guard := by
    show (gd false || fs.any Frame.guarded) = false
    rw [h.gd, h.guard]; rfl
  gd := rfl
/-- an error leaves the loop's code -/
theorem seg_left {ip : List (Addr × Obj)} {Ar : Around} {R : GenEnd} {c : Code} {fs : List Frame} {Kc : Flow → Sem PySem.Fin} {J : Value → Sem PySem.Fin} {gd : Bool → Bool} {lv : List Value → List Value} {w0 : Wd} {K : Fl Γ → Nat → Env Γ → Env Γ → Prop} {n : Nat} {s₀ s : Shared} {wd : WD Γ} {e : Value}
    (gc : GCt g Ar c fs gd) (k : GKt g ip Ar R c fs Kc J w0 K) (hC : g.C n s₀ wd) (h : cameBackBy (model g.P g.w) (g.A.deeper g.env) g.env (g.cx s₀ wd).xe e s) :
    Seg (model g.P g.w) Ar R (GYq g) n s₀ c (((Sem.raise e : Sem Flow).onRaise (cameBack g.env)).wrap Kc J gd lv) fs s := by
  show Seg _ _ _ _ _ _ _ (((cameBack g.env e).bind fun _ => (Sem.raise e : Sem Flow)).wrap Kc J gd lv) _ _
  rw [Sem.bind_eq_wrap, Sem.wrap_wrap]
  refine seg_wrap ?_
  rw [gc.over]
  exact wpAny_mono h (fun _ s' hx => k.exc n s₀ wd e s' hC hx) fun x s' hx => k.exc n s₀ wd x s' hC hx
/-- an error in the loop's code -/
theorem seg_noted {ip : List (Addr × Obj)} {Ar : Around} {R : GenEnd} {c c' : Code} {fs : List Frame} {Kc : Flow → Sem PySem.Fin} {J : Value → Sem PySem.Fin} {gd : Bool → Bool} {lv : List Value → List Value} {l : List Value} {p : Pos} {w0 : Wd} {K : Fl Γ → Nat → Env Γ → Env Γ → Prop} {n : Nat} {s₀ s : Shared} {wd : WD Γ} {x : Value}
    (gc : GCt g Ar c fs gd) (k : GKt g ip Ar R c fs Kc J w0 K) (hw : c'.weight = 0) (hu : c'.cUnits = 0) (hC : g.C n s₀ wd) (hx : (g.cx s₀ wd).xe x s) :
    Seg (model g.P g.w) Ar R (GYq g) n s₀ c' ((do noteFrame x g.env; theTreesLotGoes x : Sem Unit).wrap (fun _ => .raise x) .raise id id)
      (.ret (fun r => ((match r with | .ok f => (.pure f : Sem Flow) | .error e => .raise e).onRaise (cameBack g.env)).wrap Kc J gd lv) none (gd false) l c p [] :: fs) s := by
  refine seg_wrap ?_
  rw [(gct_loop gc hw hu).over]
  refine wpAny_bind (wpAny_mono (gp_owns g s₀ wd x s hx) (fun _ s'' hcb => wpAny_theTreesLotGoes ?_) fun y s'' hcb => ?_)
  · exact seg_leaf (.error x) (seg_left gc k hC hcb)
  · exact seg_leaf (.error y) (seg_left gc k hC hcb)
theorem gst_while (ok : GOk g) {test : Expr} {body : List Stmt} {pos : Pos} {t : Qt Γ} {q : Qg Γ} (hc : ∀ s₀ wd, SdXT Γ (g.cx s₀ wd) g.xc (gW g wd) test t) (hb : GSt g (execs body g.env) q) : GSt g (exec (.While test body [] pos) g.env) (gWhile t q) := by
  refine ⟨fun Ar R n s₀ c fs Kc J gd lv ip σ w env s wd K gc hC G hq k => ?_⟩
  obtain ⟨m, hq⟩ := hq
  refine seg_While fun p => ?_
  have gl := fun (kk : Result → Sem PySem.Fin) => gct_loop (k := kk) (c' := .whileLoop test body [] g.env) (l := lv []) (kp := []) (p := p) gc rfl rfl
  obtain ⟨w0, ew0⟩ : ∃ w0, w0 = w := ⟨_, rfl⟩
  rw [← ew0] at k
  have loop : ∀ (m n : Nat) (s₀ : Shared) (wd : WD Γ) (σ : St) (w : Wd) (env : Env Γ) (s : Shared), g.C n s₀ wd → GAt g s₀ wd ip σ w env s → Go w0.M w0.H w.M w.H → gWhB t q K g.KX g.yl m n env wd.c →
      Seg (model g.P g.w) Ar R (GYq g) n s₀ (.whileLoop test body [] g.env) ((model g.P g.w).den (.whileLoop test body [] g.env))
        (.ret (fun r => ((match r with | .ok f => (.pure f : Sem Flow) | .error e => .raise e).onRaise (cameBack g.env)).wrap Kc J gd lv) none (gd false) (lv []) c p [] :: fs) s := by
    intro m
    induction m with
    | zero => intro n s₀ wd σ w env s hC G _ hq; exact hq.elim
    | succ m ih =>
      intro n s₀ wd σ w env s hC G go hq
      refine seg_whileLoop ?_
      rw [(gl _).over]
      have run : wT (g.cx s₀ wd) test σ w.H _ := (hc s₀ wd).run (ok.gd s₀ wd) σ env w _ _ (fun b H' => ∃ w' env', w'.H = H' ∧ ER Γ w' σ env' ∧ Step w w' ∧ if b = true then q env' n wd.c (gLoop (gWhB t q K g.KX g.yl m) K) g.KX g.yl else K .nx n env' wd.c) hq G.er
        (fun b env' w' hk E' p' => ⟨w', env', rfl, E', p', hk⟩) (fun x env' hk => gw_errE G (Step.refl w) x env' hk)
      refine wpAny_mono (run (wd.ep ++ ip) s G.inv) (fun b s' hb' => ?_) fun x s' hx => seg_noted gc k rfl rfl hC hx
      obtain ⟨H2, I2, w', env', rfl, E', p', hk⟩ := hb'
      have G2 := G.step I2 E' p' G.lt
      cases b with
      | true =>
        rw [if_pos rfl] at hk
        rw [if_pos rfl]
        refine hb.run Ar R n s₀ _ _ _ _ id id ip σ w' env' s' wd _ (gl _) hC G2 hk ⟨fun n' s₀' wd' σ3 w3 env3 s3 fl hC3 G3 go3 hf h3 => ?_, fun n' s₀' wd' x s3 hC3 hx => seg_noted gc k rfl rfl hC3 hx⟩
        cases fl with
        | nx => exact seg_again rfl (ih n' s₀' wd' σ3 w3 env3 s3 hC3 G3 ((go.trans (G.er.go p')).trans go3) h3)
        | ct => exact seg_again rfl (ih n' s₀' wd' σ3 w3 env3 s3 hC3 G3 ((go.trans (G.er.go p')).trans go3) h3)
        | bk => exact seg_leaf (.ok .next) (k.ok n' s₀' wd' σ3 w3 env3 s3 .nx hC3 G3 ((go.trans (G.er.go p')).trans go3) (fun _ z => by cases z) h3)
        | rt x => exact (hf x rfl).elim
      | false =>
        rw [if_neg Bool.false_ne_true] at hk
        rw [if_neg Bool.false_ne_true]
        refine seg_execs_nil ?_
        exact seg_leaf (.ok .next) (k.ok n s₀ wd σ w' env' s' .nx hC G2 (go.trans (G.er.go p')) (fun _ z => by cases z) hk)
  exact loop m n s₀ wd σ w env s hC G (by rw [ew0]; exact Go.refl _ _) hq
section
variable {M : Model} {Ar : Around} {R : GenEnd} {Y : Protocol} {n : Nat} {s₀ s : Shared} {c : Code} {fs : List Frame} {env : PySem.Env} {Kc : Flow → Sem PySem.Fin} {J : Value → Sem PySem.Fin} {gd : Bool → Bool} {lv : List Value → List Value} {tg iter : Expr} {body : List Stmt} {pos : Pos}
theorem seg_For (h : wpAny M (Ar.over c fs) (eval iter env) (fun x s1 => wpAny M (Ar.over c fs) (pyIter x) (fun it s2 => ∀ p, Seg M Ar R Y n s₀ (.forLoop tg it body [] env) (M.den (.forLoop tg it body [] env))
      (.ret (fun r => ((match r with | .ok f => (.pure f : Sem Flow) | .error e => .raise e).onRaise (cameBack env)).wrap Kc J gd lv) none (gd false) (lv []) c p [] :: fs) s2)
      (fun x s' => Seg M Ar R Y n s₀ c (J x) fs s') s1) (fun x s' => Seg M Ar R Y n s₀ c (J x) fs s') s) (hs : ∀ x, foldedSetIterable iter env x = pure x) :
    Seg M Ar R Y n s₀ c ((exec (.For tg iter body [] pos) env).wrap Kc J gd lv) fs s := by
  rw [exec_For]
  refine seg_bind_wrap (wpAny_standAt ?_)
  refine seg_bind_wrap (wpAny_mono h (fun x s1 h1 => ?_) fun _ _ z => z)
  refine seg_bind_wrap (wpAny_of_eq (hs x) ?_)
  refine seg_bind_wrap (wpAny_standAt ?_)
  refine seg_bind_wrap (wpAny_holding (wpAny_mono h1 (fun it s2 h2 => ?_) fun _ _ z => z))
  exact seg_call h2
end
section
variable {prog : Program} {w : World} {Ar : Around} {R : GenEnd} {Y : Protocol} {n : Nat} {s₀ s : Shared} {fs : List Frame} {env : PySem.Env} {tg : Expr} {it : Value} {body : List Stmt}
theorem seg_forLoop (h : wpAny (model prog w) (Ar.over (.forLoop tg it body [] env) fs) (pyNext it) (fun r s1 => match r with
      | none => Seg (model prog w) Ar R Y n s₀ (.block [] env) (.pure (.done .next)) fs s1
      | some v => wpAny (model prog w) (Ar.over (.forLoop tg it body [] env) fs) (letOwnedTupleGo tg it v) (fun _ s2 => wpAny (model prog w) (Ar.over (.forLoop tg it body [] env) fs) (assign tg env v) (fun _ s3 =>
          Seg (model prog w) Ar R Y n s₀ (.forLoop tg it body [] env) ((execs body env).wrap (fun f => match f with
            | .next | .cont => .pure (.again (.forLoop tg it body [] env))
            | .brk => .pure (.done .next)
            | .ret v => .pure (.done (.ret v))) (fun e => (do noteFrame e env; theTreesLotGoes e : Sem Unit).wrap (fun _ => .raise e) .raise id id) id id) fs s3)
          (fun x s' => Seg (model prog w) Ar R Y n s₀ (.forLoop tg it body [] env) ((do noteFrame x env; theTreesLotGoes x : Sem Unit).wrap (fun _ => .raise x) .raise id id) fs s') s2)
          (fun x s' => Seg (model prog w) Ar R Y n s₀ (.forLoop tg it body [] env) ((do noteFrame x env; theTreesLotGoes x : Sem Unit).wrap (fun _ => .raise x) .raise id id) fs s') s1)
      (fun x s' => Seg (model prog w) Ar R Y n s₀ (.forLoop tg it body [] env) ((do noteFrame x env; theTreesLotGoes x : Sem Unit).wrap (fun _ => .raise x) .raise id id) fs s') s) :
    Seg (model prog w) Ar R Y n s₀ (.forLoop tg it body [] env) ((model prog w).den (.forLoop tg it body [] env)) fs s := by
  show Seg _ Ar R Y n s₀ _ ((forTurn tg it body [] env).onRaise (fun x => do noteFrame x env; theTreesLotGoes x)) fs s
  unfold forTurn
  rw [Sem.onRaise_eq_wrap]
  refine seg_bind_wrap (wpAny_standAt ?_)
  have conv : ∀ x, ((do noteFrame x env; theTreesLotGoes x : Sem Unit).bind fun _ => (Sem.raise x : Sem PySem.Fin)) = (do noteFrame x env; theTreesLotGoes x : Sem Unit).wrap (fun _ => .raise x) .raise id id := fun x => Sem.bind_eq_wrap _ _
  simp only [conv]
  refine seg_bind_wrap (wpAny_onRaise (wpAny_mono h (fun r s1 h1 => ?_) fun x s1 h1 => wpAny_standAt h1))
  cases r with
  | none =>
    refine seg_again rfl ?_
    exact h1
  | some v =>
    refine seg_bind_wrap (wpAny_mono h1 (fun _ s2 h2 => ?_) fun _ _ z => z)
    refine seg_bind_wrap (wpAny_mono h2 (fun _ s3 h3 => ?_) fun _ _ z => z)
    rw [Sem.bind_eq_wrap', Sem.wrap_wrap]
    rw [Sem.wrap_congr (execs body env) _ _ (K' := fun f => match f with
            | .next | .cont => .pure (.again (.forLoop tg it body [] env))
            | .brk => .pure (.done .next)
            | .ret v => .pure (.done (.ret v))) (H' := (fun e => (do noteFrame e env; theTreesLotGoes e : Sem Unit).wrap (fun _ => .raise e) .raise id id))
        (fun f => by cases f <;> rfl) (fun e => by rfl)]
    exact h3
end
end
end G

set_option maxHeartbeats 4000000
namespace G
open PySem L2
section
variable {Γ : Gam} {g : GP Γ} {A : List Nat}
theorem GAt.young {s₀ s : Shared} {wd : WD Γ} {ip : List (Addr × Obj)} {σ : St} {w : Wd} {env : Env Γ} (h : GAt g s₀ wd ip σ w env s) : (g.cx s₀ wd).s_0.heap.objs.size = g.sz := trunc_size h.sz
/-- the loop's iterator is pinned while the body runs -/
theorem GAt.pin {s₀ s : Shared} {wd : WD Γ} {ip : List (Addr × Obj)} {σ : St} {w : Wd} {env : Env Γ} {fp : List Addr} (h : GAt g s₀ wd ip σ w env s) (hf : ∀ b ∈ fp, FpOk (g.cx s₀ wd) (wd.ep ++ ip) w.H b) (ho : ∀ b ∈ fp, ∃ o, s.heap.get? b = some o ∧ ∀ v, o.data ≠ .cell v) : GAt g s₀ wd (ip ++ pinsAt fp s.heap) σ w env s := by
  refine ⟨h.sz, ?_, h.er, h.st, h.dom, fun p hp z => ?_, fun p hp => ?_, h.lt⟩
  · have I := h.inv.pinned hf ho
    rwa [List.append_assoc] at I
  · rcases z with z | z | ⟨q, hq, e⟩
    · exact h.apart p hp (.inl z)
    · exact h.apart p hp (.inr (.inl z))
    · rcases List.mem_append.mp hq with k | k
      · exact h.apart p hp (.inr (.inr ⟨q, List.mem_append_left _ k, e⟩))
      · rcases List.mem_append.mp k with k | k
        · exact h.apart p hp (.inr (.inr ⟨q, List.mem_append_right _ k, e⟩))
        · exact (hf q.1 (of_pinsAt k).1).2.2.2.2.2 p (List.mem_append_right _ (List.mem_append_left _ hp)) e.symm
  · rcases List.mem_append.mp hp with k | k
    · exact h.yip p (List.mem_append_left _ k)
    · rcases List.mem_append.mp k with k | k
      · exact h.yip p (List.mem_append_right _ k)
      · rcases (hf p.1 (of_pinsAt k).1).2.2.2.1 with z | z
        · exact absurd (show p.1 ∈ ([] : List Addr) from z) (by simp)
        · rw [h.young] at z; exact z
/-- behind the body, whoever woke it -/
theorem GAt.unpin {s₀ s₀' s s' : Shared} {wd wd' : WD Γ} {ip : List (Addr × Obj)} {σ σ' : St} {w w' : Wd} {env env' : Env Γ} {fp : List Addr} (h : GAt g s₀ wd ip σ w env s) (hf : ∀ b ∈ fp, FpOk (g.cx s₀ wd) (wd.ep ++ ip) w.H b) (ho : ∀ b ∈ fp, ∃ o, s.heap.get? b = some o ∧ ∀ v, o.data ≠ .cell v)
    (h' : GAt g s₀' wd' (ip ++ pinsAt fp s.heap) σ' w' env' s') : GAt g s₀' wd' ip σ' w' env' s' ∧ (∀ b ∈ fp, FpOk (g.cx s₀' wd') (wd'.ep ++ ip) w'.H b) ∧ ∀ b ∈ fp, ∀ o, s.heap.get? b = some o → s'.heap.get? b = some o := by
  have I' := h'.inv
  rw [← List.append_assoc] at I'
  have at' : ∀ b ∈ fp, ∃ o, s.heap.get? b = some o ∧ s'.heap.get? b = some o ∧ w'.H b = none := fun b hb => by
    obtain ⟨o, e, _⟩ := ho b hb
    obtain ⟨q1, q2, _⟩ := I'.pin (b, o) (List.mem_append_right _ (List.mem_append_right _ (mem_pinsAt hb e)))
    exact ⟨o, e, q1, q2⟩
  refine ⟨⟨h'.sz, I'.unpinned, h'.er, h'.st, h'.dom, fun p hp z => h'.apart p hp ?_, fun p hp => h'.yip p ?_, h'.lt⟩, fun b hb => ?_, fun b hb o e => ?_⟩
  · rcases z with z | z | ⟨q, hq, e⟩
    · exact .inl z
    · exact .inr (.inl z)
    · refine .inr (.inr ⟨q, ?_, e⟩)
      rcases List.mem_append.mp hq with k | k
      · exact List.mem_append_left _ k
      · exact List.mem_append_right _ (List.mem_append_left _ k)
  · rcases List.mem_append.mp hp with k | k
    · exact List.mem_append_left _ k
    · exact List.mem_append_right _ (List.mem_append_left _ k)
  · obtain ⟨f0, f1, f2, f3, f4, f5⟩ := hf b hb
    obtain ⟨o, e, q1, q2⟩ := at' b hb
    refine ⟨q2, f1, f2, .inr ?_, f4, fun p hp e2 => ?_⟩
    · rcases f3 with z | z
      · exact absurd (show b ∈ ([] : List Addr) from z) (by simp)
      · rw [h.young] at z
        rw [h'.young]; exact z
    · rcases List.mem_append.mp hp with k | k
      · exact f5 p (List.mem_append_left _ k) e2
      · rcases List.mem_append.mp k with k | k
        · exact h'.apart p k (.inr (.inr ⟨(b, o), List.mem_append_right _ (List.mem_append_right _ (mem_pinsAt hb e)), e2.symm⟩))
        · exact f5 p (List.mem_append_right _ (List.mem_append_right _ k)) e2
  · obtain ⟨o', e', q1, _⟩ := at' b hb
    rw [e] at e'; cases e'
    exact q1
theorem gst_for (ok : GOk g) (hA : ∀ p ∈ g.lent, p.1 ∉ A) {tg iter : Expr} {body : List Stmt} {pos : Pos} {qi : Qi Γ} {t : Eg Γ} {q : Qg Γ} (hi : ∀ s₀ wd, SdXI Γ (g.cx s₀ wd) g.xc (gW g wd) tg iter qi) (hg : ∀ s₀ wd, SdG Γ (g.cx s₀ wd) A tg t) (hb : GSt g (execs body g.env) q)
    (hs : ∀ x, foldedSetIterable iter g.env x = pure x := by intro _; rfl) : GSt g (exec (.For tg iter body [] pos) g.env) (gFor qi t q) := by
  refine ⟨fun Ar R n s₀ c fs Kc J gd lv ip σ w env s wd K gc hC G hq k => ?_⟩
  refine seg_For ?_ hs
  rw [gc.over]
  have run : wI (g.cx s₀ wd) tg iter σ w.H (fun J' H' => ∃ w' env' nxt len, w'.H = H' ∧ ER Γ w' σ env' ∧ Step w w' ∧ ItQ Γ J' nxt len w'.M w'.H ∧ gForB nxt len t q K g.KX g.yl len n env' wd.c) := (hi s₀ wd).run (ok.gd s₀ wd) σ env w _ _ _ hq G.er
    (fun nxt len env' J' w' hk E' p' it' => ⟨w', env', nxt, len, rfl, E', p', it', hk⟩) (fun x env' hk => gw_errE G (Step.refl w) x env' hk)
  refine wpAny_mono (run (wd.ep ++ ip) s G.inv) (fun v s1 h1 => wpAny_mono h1 (fun itv s2 h2 => ?_) fun x s' hx => k.exc n s₀ wd x s' hC hx) fun x s' hx => k.exc n s₀ wd x s' hC hx
  obtain ⟨it, fp, tn, J', H2, rfl, I2, T, st2, f2, w2, env2, nxt, len, rfl, E2, p2, ok2, hq2⟩ := h2
  intro p
  have gl := fun (kk : Result → Sem PySem.Fin) => gct_loop (k := kk) (c' := .forLoop tg (.ref it) body [] g.env) (l := lv []) (kp := []) (p := p) gc rfl rfl
  have go2 := G.er.go p2
  have loop : ∀ (m n : Nat) (s₀ : Shared) (wd : WD Γ) (σ : St) (w3 : Wd) (env : Env Γ) (s : Shared), m ≤ len → g.C n s₀ wd → GAt g s₀ wd ip σ w3 env s → Go w.M w.H w3.M w3.H → tn (len - m) s.heap → (∀ b ∈ fp, FpOk (g.cx s₀ wd) (wd.ep ++ ip) w3.H b) → ItQ Γ J' nxt len w3.M w3.H → gForB nxt len t q K g.KX g.yl m n env wd.c →
      Seg (model g.P g.w) Ar R (GYq g) n s₀ (.forLoop tg (.ref it) body [] g.env) ((model g.P g.w).den (.forLoop tg (.ref it) body [] g.env))
        (.ret (fun r => ((match r with | .ok f => (.pure f : Sem Flow) | .error e => .raise e).onRaise (cameBack g.env)).wrap Kc J gd lv) none (gd false) (lv []) c p [] :: fs) s := by
    intro m
    induction m with
    | zero =>
      intro n s₀ wd σ w3 env s hm hC G go st hf ok3 hq
      obtain ⟨hn, hq⟩ := hq
      refine seg_forLoop ?_
      rw [(gl _).over]
      rw [Nat.sub_zero] at st
      refine wpAny_mono (T.done (g.cx s₀ wd) rfl rfl rfl rfl len (wd.ep ++ ip) s σ w3.H (fun _ _ => False) G.inv hf st (ok3.stop w3 σ env G.er (Go.refl _ _) hn)) (fun r s4 hr => ?_) fun _ _ z => z.elim
      obtain ⟨rfl, I4⟩ := hr
      exact seg_leaf (.ok .next) (k.ok n s₀ wd σ w3 env s4 .nx hC (G.step I4 G.er (Step.refl _) G.lt) go (fun _ z => by cases z) hq)
    | succ m ih =>
      intro n s₀ wd σ w3 env s hm hC G go st hf ok3 hq
      obtain ⟨d, hd, e1, g2, hq⟩ := hq
      refine seg_forLoop ?_
      rw [(gl _).over]
      obtain ⟨jgo, yl⟩ := ok3.go w3 σ env G.er (Go.refl _ _) _ d hd
      refine wpAny_mono (T.item (g.cx s₀ wd) rfl rfl rfl rfl (len - (m + 1)) (wd.ep ++ ip) s σ w3.H (g.cx s₀ wd).xe G.inv hf st jgo) (fun r s4 hr => ?_) fun x s' hx => seg_noted gc k rfl rfl hC hx
      obtain ⟨u, rfl, h4⟩ := hr
      refine wpAny_mono h4 (fun _ s5 h5 => ?_) fun x s' hx => seg_noted gc k rfl rfl hC hx
      obtain ⟨x, H5, I5, r5, y5, st5, fr5⟩ := h5
      obtain ⟨ext, hx⟩ := yl x H5 y5
      obtain ⟨E5, p5⟩ := G.er.grow (Fr := fun _ => False) ext (fun _ z => z.elim)
      have hx' : Dat Γ (fun a => w3.M a ∨ False) H5 x d := hx.go go_or
      have G5 : GAt g s₀ wd ip σ ⟨fun a => w3.M a ∨ False, w3.F, H5⟩ env s5 := G.step I5 E5 p5 G.lt
      have f5 : ∀ b ∈ fp, FpOk (g.cx s₀ wd) (wd.ep ++ ip) H5 b := fun b hb => ⟨fr5 b hb, (hf b hb).2⟩
      have o5 := T.obj _ _ st5
      have G5' := G5.pin f5 o5
      have asg : wG (g.cx s₀ wd) tg x σ H5 (fun σ' H' => ∃ w', w'.H = H' ∧ ER Γ w' σ' e1 ∧ Step ⟨fun a => w3.M a ∨ False, w3.F, H5⟩ w' ∧ Agree A σ σ') := (hg s₀ wd).run (ok.gd s₀ wd) σ env d e1 ⟨fun a => w3.M a ∨ False, w3.F, H5⟩ x _ g2 E5 hx' fun σ4 w4 E4 p4 a4 => ⟨w4, rfl, E4, p4, a4⟩
      refine wpAny_mono (asg u (wd.ep ++ (ip ++ pinsAt fp s5.heap)) s5 r5 G5'.inv) (fun _ s6 h6 => ?_) fun x s' hx => seg_noted gc k rfl rfl hC hx
      obtain ⟨σ6, H6, I6, w6, rfl, E6, p6, a6⟩ := h6
      have G6 := G5'.step I6 E6 p6 (lent_agree hA G.lt a6)
      refine hb.run Ar R n s₀ _ _ _ _ id id (ip ++ pinsAt fp s5.heap) σ6 w6 e1 s6 wd _ (gl _) hC G6 hq ⟨fun n' s₀' wd' σ7 w7 env7 s7 fl hC7 G7 go7 hf7 h7 => ?_, fun n' s₀' wd' x s3 hC3 hx => seg_noted gc k rfl rfl hC3 hx⟩
      obtain ⟨G8, f8, k8⟩ := G5.unpin f5 o5 G7
      have go67 := (G.er.go p5).trans ((E5.go p6).trans go7)
      have again : gForB nxt len t q K g.KX g.yl m n' env7 wd'.c → Seg (model g.P g.w) Ar R (GYq g) n' s₀' (.forLoop tg (.ref it) body [] g.env) (.pure (.again (.forLoop tg (.ref it) body [] g.env)))
        (.ret (fun r => ((match r with | .ok f => (.pure f : Sem Flow) | .error e => .raise e).onRaise (cameBack g.env)).wrap Kc J gd lv) none (gd false) (lv []) c p [] :: fs) s7 := fun h7 =>
        seg_again rfl (ih n' s₀' wd' σ7 w7 env7 s7 (by omega) hC7 G8 (go.trans go67) (by
          rw [show len - m = len - (m + 1) + 1 by omega]
          exact T.keep _ _ _ st5 k8) f8 (ok3.step go67) h7)
      cases fl with
      | nx => exact again h7
      | ct => exact again h7
      | bk => exact seg_leaf (.ok .next) (k.ok n' s₀' wd' σ7 w7 env7 s7 .nx hC7 G8 (go.trans go67) (fun _ z => by cases z) h7)
      | rt x => exact (hf7 x rfl).elim
  exact loop len n s₀ wd σ w2 env2 s2 (Nat.le_refl _) hC (G.step I2 E2 p2 G.lt) go2 (by rw [Nat.sub_self]; exact st2) f2 ok2 hq2
end
end G

set_option maxHeartbeats 4000000
namespace G
open PySem L2
/-- what a generator does: its arguments, how many values may come at most, the asker's slots; what is wanted at its end, of an error; what the asker does with a value -/
abbrev Gx (Γ : Gam) := List (Sl Γ) → Nat → Env Γ → (Nat → Env Γ → Env Γ → Prop) → (Er → Env Γ → Env Γ → Prop) → GYl Γ → Prop
def gFun {Γ : Gam} (np loc : Nat) (q : Qg Γ) : Gx Γ := fun args n c K KX yl => args.length = np ∧ q (args ++ List.replicate loc .none) n c (fun fl n' e' c' => fl = .nx ∧ K n' e' c') KX yl
section
variable {Γ : Gam}
/-- the end of a run -/
def REq (g : GP Γ) (K : Nat → Env Γ → Env Γ → Prop) (a : Addr) (gi : Nat) : GenEnd := fun n s₀ r s =>
  ((r = .ok (.ret .none) ∨ r = .ok .next) ∧ ∃ wd σ w env, g.C n s₀ wd ∧ GAt g s₀ wd [] σ w env s ∧ K n env wd.c) ∨
    ∃ e, r = .error e ∧ ∃ n s₀ wd, g.C n s₀ wd ∧ L2.CX g.P g.w g.outer wd.w.H (truncS s₀ g.sz) (g.E wd) e s ∧ s.heap.IsGen a gi
/-- the first wake -/
structure Wk0 (P : Program) (w : World) (base : Heap) (outer : List PySem.Env) (H : Hp) (s s1 : Shared) (vs : List V) (args : List (Sl Γ)) (wd : WD Γ) (s2 : Shared) : Prop where
  up : ∀ a u, H a = some u → wd.w.H a = some u
  pv : ∀ b, s.heap.objs.size ≤ b → b < s1.heap.objs.size → wd.w.H b = none
  os : s2.os = s.os
  bare : PyProof.Rows.AllBare s2.gens
  bs : ∀ b o, base.get? b = some o → s2.heap.get? b = some o ∧ wd.w.H b = none
  funs : s2.heap.FunFrames base outer
  frf : ∀ b ∈ frs outer, wd.w.H b = none
  hok : HOk P w wd.w.H s2.heap
  keep : ∀ b o, s1.heap.get? b = some o → s2.heap.get? b = some o
  ep : ∀ p ∈ wd.ep, s2.heap.get? p.1 = some p.2 ∧ wd.w.H p.1 = none ∧ s1.heap.objs.size ≤ p.1 ∧ p.1 ∉ frs outer ∧ ∀ v, p.2.data ≠ .cell v
  er : ER Γ wd.w (vs.map some) args
/-- what a call of a generator def gives: a generator that has not begun -/
def GMq (P : Program) (w : World) (base : Heap) (k : Nat) (outer : List PySem.Env) (H : Hp) (s : Shared) (xc : Nat → Addr) (gx : Gx Γ) (L : List Nat) (vs : List V) (u : Value) (s1 : Shared) : Prop :=
  ∃ (a : Addr) (gi : Nat) (c : Code), u = .ref a ∧ s.heap.objs.size ≤ a ∧ a < s1.heap.objs.size ∧ s1.heap.IsGen a gi ∧ s1.gens[gi]? = some (.fresh c) ∧ s1.os = s.os ∧ PyProof.Rows.AllBare s1.gens ∧ s1.heap.NoLimit ∧ (∀ b o, s.heap.get? b = some o → s1.heap.get? b = some o) ∧
    ∀ (A : Around) (C : Nat → Shared → WD Γ → Prop) (yl : GYl Γ) (KX : Er → Env Γ → Env Γ → Prop) (K : Nat → Env Γ → Env Γ → Prop) (n : Nat) (s2 : Shared) (wd : WD Γ) (args : List (Sl Γ)) (lent : List (Nat × V)), (∀ p ∈ lent, p.1 ∈ L ∧ vs[p.1]? = some p.2) → (∀ i ∈ L, ∃ v, (i, v) ∈ lent) → Room k A → A.guards = some [] → A.frames = some outer → gx args n wd.c K KX yl → C n s2 wd → Wk0 P w base outer H s s1 vs args wd s2 →
      ∃ (g : GP Γ) (go : Obj), g.C = C ∧ g.yl = yl ∧ g.KX = KX ∧ g.lent = lent ∧ g.xc = xc ∧ g.P = P ∧ g.w = w ∧ g.base = base ∧ g.outer = outer ∧ s.heap.objs.size = g.sz ∧ g.pn = [(a, go)] ∧ s1.heap.get? a = some go ∧ (∀ b, Priv g [] b → s.heap.objs.size ≤ b) ∧ Seg (model P w) A (REq g K a gi) (GYq g) n s2 c ((model P w).den c) [] s2
structure GFq (P : Program) (w : World) (mg : Str → Option Value) (base : Heap) (k : Nat) (f : Addr) (fd : FuncData) (ps : List Str) (xc : Nat → Addr) (gx : Gx Γ) (L : List Nat) : Prop where
  run : ∀ (A : Around) (outer : List PySem.Env) (s : Shared) (H : Hp) (args : Args) (us : List Value) (vs : List V), Room k A → Env0 P w Γ.K mg base A outer s H → BindsTo s fd args (ps.zip us) → Vals vs us → vs.length = ps.length →
    codeAny (model P w) A (.call (.ref f) args) (fun r s' => match r with | .ok (.ret u) => GMq P w base k outer H s xc gx L vs u s' | _ => False) s
theorem trunc_self (h : Heap) : trunc h h.objs.size = h := by
  unfold trunc
  rw [Array.extract_size]
theorem ER.blankG {w : Wd} (dom : ∀ a, w.M a → w.H a ≠ none) (σ : St) : ER Γ ⟨w.M, fun _ _ => False, w.H⟩ σ (List.replicate σ.length .none) :=
  ⟨by simp, fun i s e => (by
    rw [List.getElem?_replicate] at e
    split at e
    · cases e; exact .inl ⟨rfl, fun _ z => z⟩
    · cases e), fun _ _ z => z.elim, fun _ _ _ z => z.elim, dom, fun _ _ _ z => z⟩
theorem gf_of {P : Program} {w : World} {mg : Str → Option Value} {base : Heap} {x qual : Str} {st : Stmt} {f : Addr} {fd : FuncData} {N ps : List Str} {k np loc : Nat} {xc : Nat → Addr} {q : Qg Γ} {gx : Gx Γ} {L : List Nat} (F : Fun Γ.K x qual st f fd) (S : GScope N ps (defScope st)) (hp : ps.length = np) (hl : N.length - np = loc) (e3 : gx = gFun np loc q)
    (hi : ∀ sz cdv, interactive (PyProof.Rows.envOfC qual (defScope st) sz f cdv) = false)
    (hb : ∀ g : GP Γ, g.P = P → g.w = w → g.mg = mg → g.base = base → g.N = N → g.qual = qual → g.scope = defScope st → g.f = f → g.xc = xc → (∀ p ∈ g.lent, p.1 ∈ L) → (∀ i ∈ L, ∃ v, (i, v) ∈ g.lent) → g.A.guards = some [] → Room k (g.A.deeper g.env) → GOk g → GSt g (execs (defBody st) g.env) q) : GFq P w mg base (k + 1) f fd ps xc gx L := by
  subst hp hl e3
  obtain ⟨oc, od, kV, doc, pm, an, cdv, ct, osl, efd, lk, hcd⟩ := F.ex
  subst efd
  refine ⟨fun A outer s H args us vs hr e0 hbi r hl => ?_⟩
  have KX : Γ.K.In s.heap := e0.mod.kin.keeps fun b o e => (e0.bs b o e).1
  have lim : s.heap.NoLimit := e0.mod.nolimit.keeps fun b o e => (e0.bs b o e).1
  refine codeAny_call_generator hr.depth (KX _ _ lk) rfl S.co S.gen rfl (PySem.W.codeRec_of KX hcd) (hbi _ _ _ _ ?_)
  refine wpAny_newFunctionEnv_cells S.kind (fun y hy => ?_) fun env he s1 ic => ?_
  · rcases S.par y.1 (List.of_mem_zip hy).1 with q | q
    · exact .inl q
    · exact .inr ⟨q, PySem.W.cellsFrom_some _ _ _ (.inl q)⟩
  subst he
  have lim1 : s1.heap.NoLimit := lim.keeps ic.toInCall.keep
  refine ⟨lim1, ?_⟩
  obtain ⟨h1, tk, es1, hk1⟩ := ic.done
  have os1 : s1.os = s.os := by rw [es1]
  have gen1 : s1.gens = s.gens := by rw [es1]
  have lt1 : s.heap.objs.size < s1.heap.objs.size := ic.toInCall.ns.lt
  have kp1 : ∀ b o, s.heap.get? b = some o → s1.heap.get? b = some o := ic.toInCall.keep
  have main : ∀ (go : Obj) (nm qn : Value) (tk2 : Nat), go.cls = .type "generator" → go.data = .fields #[.int s1.gens.size 0, nm, qn] → go.slots = #[] → (∀ h : Heap, (h.push go).get? h.objs.size = some go) →
      GMq P w base (k + 1) outer H s xc (gFun ps.length (N.length - ps.length) q) L vs (.ref s1.heap.objs.size) { s1 with gens := s1.gens.push (.fresh (.func (defBody st) (PyProof.Rows.envOfC qual (defScope st) s.heap.objs.size f cdv))), toks := tk2, heap := s1.heap.push go } := by
    intro go nm qn tk2 hgc hgd hgs hgp
    refine ⟨s1.heap.objs.size, s1.gens.size, _, rfl, Nat.le_of_lt lt1, ?_, ⟨go, nm, qn, hgp _, hgc, hgd, hgs⟩, Array.getElem?_push_size .., os1, ?_, lim1.keeps fun b o e => Heap.get?_push_of_some _ e, fun b o e => Heap.get?_push_of_some _ (kp1 b o e), ?_⟩
    · show _ < (s1.heap.push _).objs.size
      rw [Heap.size_push]; exact Nat.lt_succ_self _
    · exact PyProof.Rows.AllBare.push (by rw [gen1]; exact e0.bare) rfl
    intro Aw C yl KX' K n s2 wd as lent hle hle2 hrw hgu hfr hgx hC W
    obtain ⟨hlen, hq⟩ := hgx
    have e0w : Env0 P w Γ.K mg base Aw outer s H := ⟨hfr, e0.mod, e0.bs, e0.bsz, e0.funs, e0.frf, e0.hok, e0.bare⟩
    have I1 : Inv (gcxOf P w Γ.K mg base N qual (defScope st) f cdv Aw outer s H (fun _ _ _ => False) []) [] (start N vs) H s1 := inv_startG S hrw.hd e0w hl r ic
    have hgo := W.keep _ go (hgp _)
    have hts : truncS s s.heap.objs.size = s := by unfold truncS; rw [trunc_self]
    have kp2 : ∀ b o, s1.heap.get? b = some o → s2.heap.get? b = some o := fun b o e => W.keep b o (Heap.get?_push_of_some _ e)
    let g0 : GP Γ := { P := P, w := w, mg := mg, base := base, N := N, qual := qual, scope := defScope st, f := f, cd := cdv, A := Aw, outer := outer, sz := s.heap.objs.size, pn := [], xc := xc, C := C, yl := yl, KX := KX', lent := [] }
    let g : GP Γ := { g0 with pn := [(s1.heap.objs.size, go)], lent := lent }
    let w0 : Wd := ⟨fun a => wd.w.M a ∧ H a ≠ none, fun _ _ => False, H⟩
    let w2 : Wd := ⟨wd.w.M, fun _ _ => False, wd.w.H⟩
    have szg : s1.heap.objs.size < ({ s1 with gens := s1.gens.push (.fresh (.func (defBody st) (PyProof.Rows.envOfC qual (defScope st) s.heap.objs.size f cdv))), toks := tk2, heap := s1.heap.push go } : Shared).heap.objs.size := by
      show _ < (s1.heap.push go).objs.size
      rw [Heap.size_push]; exact Nat.lt_succ_self _
    have low : ∀ b, Priv g0 [] b → s.heap.objs.size ≤ b ∧ b < s1.heap.objs.size := fun b hb => by
      rcases hb with rfl | ⟨y, e⟩ | ⟨p, hp, _⟩
      · exact ⟨Nat.le_refl _, lt1⟩
      · obtain ⟨v, o, ho, _⟩ := I1.cell y b e
        exact ⟨Nat.le_of_lt (ic.above y b (PySem.mem_of_lookup e)), Heap.lt_size ho⟩
      · exact absurd hp (by simp [g0])
    have G1 : GAt g0 s ⟨w0, [], []⟩ [] (start N vs) w0 (List.replicate (start N vs).length .none) s1 := by
      refine ⟨Nat.le_refl _, ⟨⟨I1.ok.mod, I1.ok.kind, I1.ok.glob, I1.ok.blt, ?_, I1.ok.inj, I1.ok.has, fun x c h1 h2 => ?_, I1.ok.hd, I1.ok.frames, I1.ok.stk, I1.ok.exf, fun b o e => ?_, ?_, I1.ok.noex, I1.ok.exfs, ?_, I1.ok.frf⟩, ?_, I1.bare, ?_, I1.loc, I1.cell, I1.free, I1.freeC, fun p hp => absurd hp (by simp [g0, GP.cx]), I1.hok, I1.len⟩, ER.blankG (w := w0) (fun a m => m.2) _, Step.refl _, fun a m => m.2, fun p hp => absurd hp (by simp), fun p hp => absurd hp (by simp [g0]), fun p hp => absurd hp (by simp [g0])⟩
      · show (truncS s s.heap.objs.size).heap.objs.size ≤ _
        rw [hts]; exact I1.ok.above
      · show (truncS s s.heap.objs.size).heap.objs.size ≤ _
        rw [hts]; exact I1.ok.cab x c h1 h2
      · show (truncS s s.heap.objs.size).heap.get? b = some o ∧ _
        rw [hts]; exact I1.ok.bs b o e
      · show _ ≤ (truncS s s.heap.objs.size).heap.objs.size
        rw [hts]; exact I1.ok.bsz
      · show (truncS s s.heap.objs.size).heap.FunFrames _ _
        rw [hts]; exact I1.ok.funs
      · show s1.os = (truncS s s.heap.objs.size).os
        rw [hts]; exact I1.os
      · show Un _ _ _ _ (truncS s s.heap.objs.size).heap _
        rw [hts]; exact I1.base
    have K2 : Wk g0 [] (start N vs) w0 s1 ⟨w2, wd.ep, wd.c⟩ (List.replicate (start N vs).length .none) s2 := by
      refine ⟨W.os.trans os1.symm, W.bare, Nat.le_of_lt (Nat.lt_of_lt_of_le lt1 (Nat.le_of_lt (Heap.lt_size hgo))), W.bs, W.funs, W.frf, W.hok, fun b hb o e => ⟨kp2 b o e, W.pv b (low b hb).1 (Nat.lt_trans (low b hb).2 szg)⟩, fun p hp => ?_, ⟨fun a u _ e => W.up a u e, fun a n e m => n ⟨m, e⟩⟩, ER.blankG (w := w2) W.er.dom _⟩
      obtain ⟨q1, q2, q3, q4, q5⟩ := W.ep p hp
      refine ⟨q1, q2, fun z => ?_, q4, q5⟩
      have q3' : s1.heap.objs.size + 1 ≤ p.1 := by rw [← Heap.size_push]; exact q3
      exact absurd (Nat.lt_of_lt_of_le (low p.1 z).2 (Nat.le_of_succ_le q3')) (Nat.lt_irrefl _)
    have G2 := G1.woken K2
    have J := G2.inv
    have frl : ∀ L ∈ frs outer, L < s.heap.objs.size := fun L hL => by
      obtain ⟨_, o, ho, _⟩ := e0.funs.mem hL
      exact Heap.lt_size ho
    have G3 : GAt g s2 wd [] (start N vs) wd.w (as ++ List.replicate (N.length - ps.length) .none) s2 := by
      refine ⟨G2.sz, ⟨⟨J.ok.mod, J.ok.kind, J.ok.glob, J.ok.blt, J.ok.above, J.ok.inj, J.ok.has, J.ok.cab, J.ok.hd, J.ok.frames, J.ok.stk, J.ok.exf, J.ok.bs, J.ok.bsz, J.ok.noex, J.ok.exfs, J.ok.funs, J.ok.frf⟩, J.os, J.bare, J.base, J.loc, J.cell, J.free, J.freeC, fun p hp => ?_, J.hok, J.len⟩, ?_, Step.refl _, W.er.dom, fun p hp z => ?_, fun p hp => ?_, fun p hp => ?_⟩
      · rcases List.mem_append.mp hp with z | z
        · rw [List.mem_singleton.mp z]
          exact ⟨hgo, W.pv _ (Nat.le_of_lt lt1) szg, Nat.ne_of_gt lt1, fun z => absurd (Nat.lt_trans (frl _ z) lt1) (Nat.lt_irrefl _), fun v z => by rw [hgd] at z; cases z⟩
        · exact J.pin p (List.mem_append_right _ z)
      · have es : L2.start N vs = vs.map some ++ List.replicate (N.length - ps.length) none := by unfold L2.start; rw [hl]
        rw [es]
        exact W.er.extend _
      · obtain ⟨_, _, q3, _, _⟩ := W.ep p hp
        have q3' : s1.heap.objs.size + 1 ≤ p.1 := by rw [← Heap.size_push]; exact q3
        rcases z with z | z | ⟨q, hq, e⟩
        · exact absurd (Nat.lt_of_lt_of_le (low p.1 (.inl z)).2 (Nat.le_of_succ_le q3')) (Nat.lt_irrefl _)
        · exact absurd (Nat.lt_of_lt_of_le (low p.1 (.inr (.inl z))).2 (Nat.le_of_succ_le q3')) (Nat.lt_irrefl _)
        · have hq' : q = (s1.heap.objs.size, go) := by simpa [g] using hq
          rw [hq'] at e
          have e' : s1.heap.objs.size = p.1 := e
          rw [← e'] at q3'
          exact absurd (Nat.lt_of_succ_le q3') (Nat.lt_irrefl _)
      · have hp' : p = (s1.heap.objs.size, go) := by simpa [g] using hp
        rw [hp']
        exact Nat.le_of_lt lt1
      · obtain ⟨_, q⟩ := hle p hp
        unfold L2.start
        rw [List.getElem?_append_left (by rw [List.length_map]; exact (List.getElem?_eq_some_iff.mp q).1), List.getElem?_map, q]; rfl
    have ok : GOk g := ⟨by have := hrw.un; show (Aw.deeper (PyProof.Rows.envOfC qual (defScope st) s.heap.objs.size f cdv)).units + 65 < cLine; show Aw.units + 3 + 65 < cLine; omega, S.nd, S.co, hi _ _⟩
    refine ⟨g, go, rfl, rfl, rfl, rfl, rfl, rfl, rfl, rfl, rfl, rfl, rfl, hgp _, fun b hb => ?_, ?_⟩
    · rcases hb with z | z | ⟨q, hq, e⟩
      · exact (low b (.inl z)).1
      · exact (low b (.inr (.inl z))).1
      · have hq' : q = (s1.heap.objs.size, go) := by simpa [g] using hq
        rw [hq'] at e
        have e' : s1.heap.objs.size = b := e
        rw [← e']
        exact Nat.le_of_lt lt1
    refine seg_func ?_
    refine (hb g rfl rfl rfl rfl rfl rfl rfl rfl rfl (fun p hp => (hle p hp).1) hle2 hgu (hrw.deeper _) ok).run Aw _ n s2 _ [] _ _ id id [] (start N vs) wd.w _ s2 wd _ ⟨GenW.over_func, rfl, rfl, rfl⟩ hC G3 hq ⟨fun n' s₀ wd' σ' w' env' s' fl hC' G' _ hf hk => ?_, fun n' s₀ wd' e s' hC' hx => ?_⟩
    · obtain ⟨rfl, hk⟩ := hk
      exact seg_end (.ok (.ret .none)) (.inl ⟨.inl rfl, wd', σ', w', env', hC', G', hk⟩)
    · refine seg_wrap ?_
      rw [GenW.over_func]
      refine wpAny_mono (show wpAny (model P w) (Aw.deeper g.env) (leaving g.env e) (fun _ s'' => L2.CX P w outer wd'.w.H (truncS s₀ g.sz) (g.E wd') e s'' ∧ ∀ p ∈ g.pn, s''.heap.get? p.1 = some p.2) (fun _ _ => False) s' from hx) (fun _ s'' q => ?_) fun _ s'' q => q.elim
      exact seg_end (.error e) (.inr ⟨e, rfl, n', s₀, wd', hC', q.1, go, nm, qn, q.2 (s1.heap.objs.size, go) (List.mem_singleton.mpr rfl), hgc, hgd, hgs⟩)
  exact main _ _ _ _ rfl rfl rfl fun h => Heap.get?_push_size _ rfl
end
end G

set_option maxHeartbeats 4000000
namespace G
open PySem L2 Asl
open Sem (wp)
section
variable {M : Model}
theorem bare_back {G0 G : Array GenState} (h0 : PyProof.Rows.AllBare G0) (h : PyProof.Rows.AllBare G) : PyProof.Rows.AllBare (back G0 G) := fun y hy => by
  obtain ⟨i, hi, e⟩ := Array.mem_iff_getElem.mp hy
  have q : (back G0 G)[i]? = some y := by rw [Array.getElem?_eq_getElem hi, e]
  rw [back_get] at q
  cases e1 : G[i]? with
  | none => rw [e1] at q; cases q
  | some x =>
    rw [e1, Option.map_some] at q
    have q' := Option.some.inj q
    unfold pick at q'
    split at q'
    · rename_i z ez
      split at q'
      · rw [← q']; exact h0 z (Array.mem_of_getElem? ez)
      · rw [← q']; exact h x (Array.mem_of_getElem? e1)
    · rw [← q']; exact h x (Array.mem_of_getElem? e1)
theorem bare_cut {G : Array GenState} (h : PyProof.Rows.AllBare G) : PyProof.Rows.AllBare (G.map cut) := fun y hy => by
  obtain ⟨x, hx, e⟩ := Array.mem_map.mp hy
  rw [← e, cut_bare]; exact h x hx
theorem Inv.gens {X : Cx} {pins : List (Addr × Obj)} {σ : St} {H : Hp} {s : Shared} {G : Array GenState} (I : Inv X pins σ H s) (h : PyProof.Rows.AllBare G) : Inv X pins σ H { s with gens := G } := ⟨I.ok, I.os, h, I.base, I.loc, I.cell, I.free, I.freeC, I.pin, I.hok, I.len⟩
theorem Inv.stuck {X : Cx} {pins : List (Addr × Obj)} {σ : St} {H : Hp} {s : Shared} (I : Inv X pins σ H s) : Inv X pins σ H (stuck s) := Inv.gens I (bare_cut I.bare)
theorem Inv.amid {X : Cx} {pins : List (Addr × Obj)} {σ : St} {H : Hp} {s s1 s' : Shared} (I : Inv X pins σ H s1) (b0 : PyProof.Rows.AllBare s.gens) (h : Amid s s1 s') : Inv X pins σ H s' := by
  obtain ⟨_, rfl⟩ := h
  exact Inv.gens I (bare_back b0 I.bare)
/-- with one value less to come -/
def Goes1 (M : Model) (A : Around) (R : GenEnd) (Y : Protocol) (n : Nat) (gs : GenState) (r : Resume) (s : Shared) : Prop := match n with
  | 0 => False
  | m + 1 => gs.Goes M A R Y m r s
/-- a generator is woken, the state that it leaves is a sleeper's -/
theorem wpAny_resumeS {A : Around} {R : GenEnd} {Y : Protocol} {n : Nat} {E : Value → Shared → Prop} {s : Shared} {g : Nat} {gs : GenState} {l : List Value} {α : Type} {k : GenResult → Sem α} {Q : α → Shared → Prop} (hg : s.gens[g]? = some gs)
    (hgo : gs.Goes M A R Y n (.send .none) (s.setGen g .running)) (hR : ∀ x s₁, R n (s.setGen g .running) x s₁ → wpAny M A (k (End.ret x).result) Q E (s₁.setGen g .finished))
    (hY : ∀ v s₁ gs', gs'.bare = true → isS gs' = true → Y (n - 1) (s.setGen g .running) v s₁ (fun r' s'' => Goes1 M A R Y n gs' r' s'') → wpAny M A (k (.yielded v)) Q E (s₁.setGen g gs')) :
    wpAny M A (.resume g (.send .none) l k) Q E s := by
  have seg : ∃ c t fs, gs.Goes M A R Y n (.send .none) (s.setGen g .running) = ((match gs with | .fresh _ => (Resume.send .none = Resume.send .none) | _ => True) ∧ Seg M A R Y n (s.setGen g .running) c t fs (s.setGen g .running)) := by
    cases gs with
    | fresh c => exact ⟨c, _, [], rfl⟩
    | suspended k₀ l₀ c p fs cl => exact ⟨c, k₀ (.send .none), fs, by simp [GenState.Goes]⟩
    | running => exact hgo.elim
    | finished => exact hgo.elim
  intro Γ p hΓ
  rw [Sem.wp_resume]
  have hB : ∀ c, (Γ.wake c p).Woken A := fun c => hΓ.wake c p
  have fin : ∀ e₁ s₁, SegEnd R Y n (Seg.next M A R Y n) (s.setGen g .running) e₁ s₁ → e₁.quiet = true ∧ wp M Γ (k e₁.result) (fun a _ s' => Q a s') (fun e _ s' => E e s') p (s₁.setGen g e₁.genState) := fun e₁ s₁ he => by
    cases e₁ with
    | ret x => exact ⟨rfl, hR x s₁ he Γ p hΓ⟩
    | susp v g₀ l₀ k₀ c₀ p₀ fs₀ =>
      refine ⟨he.1, hY v s₁ _ (End.bare_of_quiet he.1) rfl ?_ Γ p hΓ⟩
      cases n with
      | zero => exact he.2
      | succ m => exact he.2
  cases gs with
  | fresh c =>
    obtain ⟨e₁, s₁, hr, he⟩ := seg_iff.mp hgo.2 (Γ.wake c p) p rfl (hB c)
    exact ⟨_, _, by unfold Wakes; rw [hg]; exact ⟨e₁, s₁, hr, (fin e₁ s₁ he).1, rfl, rfl⟩, (fin e₁ s₁ he).2⟩
  | suspended k₀ l₀ c₀ p₀ fs₀ cl =>
    obtain ⟨e₁, s₁, hr, he⟩ := seg_iff.mp hgo (Γ.wake c₀ p) p₀ rfl (hB c₀)
    exact ⟨_, _, by unfold Wakes; rw [hg]; exact ⟨e₁, s₁, hr, (fin e₁ s₁ he).1, rfl, rfl⟩, (fin e₁ s₁ he).2⟩
  | running => exact hgo.elim
  | finished => exact hgo.elim
end
section
variable {P : Program} {w : World} {A : Around} {E : Value → Shared → Prop} {s : Shared}
theorem next_genS {a : Addr} {g n : Nat} {gs : GenState} {F : Nat → Shared → Shared → Prop} {Er : Value → Shared → Prop} {Y : Protocol} {Q : Option Value → Shared → Prop} (hh : A.handled = none)
    (hl : s.heap.NoLimit) (hroom : A.depth < recursionLimit) (hg : s.heap.IsGen a g) (hgs : s.gens[g]? = some gs)
    (hgo : gs.Goes (model P w) A.in1 (fun n s₀ r s₁ => ((r = .ok (.ret .none) ∨ r = .ok .next) ∧ F n s₀ s₁) ∨ ∃ e, r = .error e ∧ Er e s₁) Y n (.send .none) (s.setGen g .running))
    (hY : ∀ v s₁ gs', gs'.bare = true → isS gs' = true → Y (n - 1) (s.setGen g .running) v s₁ (fun r' s'' => Goes1 (model P w) A.in1 (fun n s₀ r s₁ => ((r = .ok (.ret .none) ∨ r = .ok .next) ∧ F n s₀ s₁) ∨ ∃ e, r = .error e ∧ Er e s₁) Y n gs' r' s'') → Q (some v) (s₁.setGen g gs'))
    (hP : ∀ s₁, F n (s.setGen g .running) s₁ → ∀ h', (∀ b o, s₁.heap.get? b = some o → h'.get? b = some o) → Q none { s₁.setGen g .finished with heap := h' })
    (hE : ∀ e s₁, Er e s₁ → s₁.heap.IsGen a g ∧ NotStop (model P w) e s₁.heap ∧ E e (s₁.setGen g .finished)) :
    wpAny (model P w) A (pyNext (.ref a)) Q E s := by
  unfold pyNext
  refine wpAny_bind (wpAny_attempt (wpAny_callSpecial?_slot (name := Str.ofString "__next__") hg.typeIs slot_gen_next
    (wpAny_call_entry slot_gen_next hg.typeIs entry_gen_next ?_ (args_gen_next _))))
  show wpAny _ A.in1 (Builtin.Generator.genWake (.ref a) (.send .none)) _ _ s
  unfold Builtin.Generator.genWake
  refine wpAny_bind (wpAny_holding (wpAny_genNumber hg (wpAny_bind (wpAny_genState hgs ?_))))
  cases gs with
  | running => exact hgo.elim
  | finished => exact hgo.elim
  | _ =>
    refine wpAny_bind (wpAny_roomToWake hl hroom ?_)
    show wpAny _ A.in1 (.resume g (.send .none) [] _) _ _ s
    refine wpAny_resumeS hgs hgo (fun x s₁ hx => ?_) (fun v s₁ gs' hb his hv => wpAny_pure ⟨v, rfl, wpAny_pure (hY v s₁ gs' hb his hv)⟩)
    rcases hx with ⟨hr, hp⟩ | ⟨e, rfl, he⟩
    · have hres : End.result (.ret x) = .returned .none := by
        rcases hr with hr | hr <;> rw [hr] <;> rfl
      first | rw [hres] | simp only [hres]
      show wpAny _ A.in1 (newExc (.type "StopIteration") [] >>= _) _ _ _
      refine wpAny_bind ?_
      simp only [newExc, newTuple]
      refine wpAny_bind (wpAny_newObj_type ?_ (by size_fits))
      refine wpAny_bind (m := firstArgMember _ _) (wpAny_of_eq (a := Value.none) (by first | rfl | (simp only [firstArgMember]; rfl)) ?_)
      refine wpAny_newObj_type ?_ (by size_fits)
      simp only [raiseNew]
      refine wpAny_bind (wpAny_bind (wpAny_handled ?_))
      first | rw [show A.in1.handled = none from hh] | rw [hh]
      refine wpAny_throw ?_
      refine wpAny_bind (wpAny_isInstance (T := "StopIteration") (b := true) ⟨_, Heap.get?_push_size _ rfl, rfl⟩ isSubtype_stop ?_)
      exact wpAny_pure (hP s₁ hp _ fun b o hb => Heap.get?_push_of_some _ (Heap.get?_push_of_some _ hb))
    · obtain ⟨hg1, hns, hq⟩ := hE e s₁ he
      obtain ⟨o, nm, qn, ho, hc, hd, hsl⟩ := hg1
      show wpAny _ A.in1 (Builtin.Generator.genLeft (.ref a) e) _ _ _
      unfold Builtin.Generator.genLeft Builtin.Generator.madeByALambda
      refine wpAny_bind (wpAny_bind (wpAny_load (o := o) ho (wpAny_pure ?_)))
      refine wpAny_bind (hns _ _ _ _ rfl ?_)
      rw [Bool.and_false, if_neg Bool.false_ne_true]
      unfold Builtin.Generator.genEscaped
      first
        | refine wpAny_bind (hns _ _ _ _ rfl ?_)
        | refine wpAny_bind (wpAny_pure (wpAny_bind (hns _ _ _ _ rfl ?_)))
      rw [if_pos (show (!false) = true from rfl)]
      first
        | refine wpAny_throw ?_
        | refine wpAny_bind (wpAny_throw ?_)
      refine wpAny_bind (hns _ _ _ _ rfl ?_)
      rw [if_neg Bool.false_ne_true]
      exact wpAny_throw hq
end
end G

set_option maxHeartbeats 4000000
namespace G
open PySem L2 Asl
open Classical
/-- the things at Pv as they stand in h: known, not to be changed -/
noncomputable def layH (Pv : Addr → Prop) (h : Heap) (H : Hp) : Hp := fun b => if Pv b then some (.ext fun h' => h'.get? b = h.get? b) else H b
noncomputable def clrH (Pv : Addr → Prop) (H : Hp) : Hp := fun b => if Pv b then none else H b
section
variable {Pv : Addr → Prop} {h h' : Heap} {H : Hp}
theorem lay_in {b : Addr} (p : Pv b) : layH Pv h H b = some (.ext fun h' => h'.get? b = h.get? b) := if_pos p
theorem lay_out {b : Addr} (p : ¬ Pv b) : layH Pv h H b = H b := if_neg p
theorem clr_in {b : Addr} (p : Pv b) : clrH Pv H b = none := if_pos p
theorem clr_out {b : Addr} (p : ¬ Pv b) : clrH Pv H b = H b := if_neg p
theorem lay_some {b : Addr} {u : HO} (n : ∀ b, Pv b → H b = none) (e : H b = some u) : layH Pv h H b = some u := by
  rw [lay_out (fun p => by rw [n b p] at e; cases e)]; exact e
theorem clr_some {b : Addr} {u : HO} (n : ∀ b, Pv b → ∃ φ, H b = some (.ext φ)) (e : H b = some u) (hu : ∀ φ, u ≠ .ext φ) : clrH Pv H b = some u := by
  rw [clr_out (fun p => by obtain ⟨φ, q⟩ := n b p; rw [e] at q; exact hu φ (Option.some.inj q))]; exact e
theorem hok_lay {P : Program} {w : World} (k : HOk P w H h) (n : ∀ b, Pv b → H b = none) (o : ∀ b, Pv b → ∃ o, h.get? b = some o) : HOk P w (layH Pv h H) h := fun b u e => by
  by_cases p : Pv b
  · rw [lay_in p] at e
    cases e
    obtain ⟨ob, eo⟩ := o b p
    exact ⟨rfl, ⟨ob, eo⟩, fun h1 h2 e1 kk => by rw [eo] at e1; rw [eo]; exact kk ob e1⟩
  · rw [lay_out p] at e
    exact (k b u e).stay (fun _ _ _ z => z) (fun c z => lay_some n z) fun c xs z => lay_some n z
theorem hok_clr {P : Program} {w : World} (k : HOk P w H h) (n : ∀ b, Pv b → ∃ φ, H b = some (.ext φ)) : HOk P w (clrH Pv H) h := fun b u e => by
  by_cases p : Pv b
  · rw [clr_in p] at e; cases e
  · rw [clr_out p] at e
    exact (k b u e).stay (fun _ _ _ z => z) (fun c z => clr_some n z fun φ q => by cases q) fun c xs z => clr_some n z fun φ q => by cases q
end
section
variable {X : Cx} {pins : List (Addr × Obj)} {σ : St} {H : Hp} {s : Shared} {Pv : Addr → Prop}
/-- nothing of the frame's, nothing pinned, younger than the entry -/
def Off (X : Cx) (pins : List (Addr × Obj)) (b : Addr) : Prop := (b ∈ X.ex ∨ X.s_0.heap.objs.size ≤ b) ∧ b ≠ X.env.locals ∧ b ∉ X.fs ∧ (∀ x c, X.env.cells.lookup x = some c → c ≠ b) ∧ ∀ p ∈ X.pn ++ pins, p.1 ≠ b
theorem Inv.lay (I : Inv X pins σ H s) (n : ∀ b, Pv b → H b = none) (o : ∀ b, Pv b → ∃ o, s.heap.get? b = some o) (off : ∀ b, Pv b → Off X pins b) : Inv X pins σ (layH Pv s.heap H) s := by
  refine ⟨I.ok, I.os, I.bare, ⟨I.base.keep, I.base.slot, fun b ob e nn hx => ?_, I.base.there, fun b xs e => lay_some n (I.base.tups b xs e), fun b ob u e => lay_some n (I.base.frzs b ob u e), fun b ps e => ?_⟩, I.loc, I.cell, ?_, fun x c e => ?_, fun p hp => ?_, hok_lay I.hok n o, I.len⟩
  · rw [lay_out (fun p => (off b p).1.elim hx fun z => Nat.lt_irrefl _ (Nat.lt_of_lt_of_le (Heap.lt_size e) z))]
    exact I.base.free b ob e nn hx
  · obtain ⟨m, q⟩ := I.base.tbls b ps e
    exact ⟨m, lay_some n q⟩
  · rw [lay_out (fun p => (off _ p).2.1 rfl)]; exact I.free
  · rw [lay_out (fun p => (off c p).2.2.2.1 x c e rfl)]; exact I.freeC x c e
  · obtain ⟨h1, h2, h3, h4, h5⟩ := I.pin p hp
    exact ⟨h1, by rw [lay_out (fun q => (off p.1 q).2.2.2.2 p hp rfl)]; exact h2, h3, h4, h5⟩
theorem Inv.clr (I : Inv X pins σ H s) (n : ∀ b, Pv b → ∃ φ, H b = some (.ext φ)) : Inv X pins σ (clrH Pv H) s := by
  have non : ∀ b, H b = none → clrH Pv H b = none := fun b e => by
    by_cases p : Pv b
    · exact clr_in p
    · rw [clr_out p]; exact e
  refine ⟨I.ok, I.os, I.bare, ⟨I.base.keep, I.base.slot, fun b ob e nn hx => non b (I.base.free b ob e nn hx), I.base.there, fun b xs e => clr_some n (I.base.tups b xs e) (fun φ q => by cases q), fun b ob u e => clr_some n (I.base.frzs b ob u e) (fun φ q => by cases q), fun b ps e => ?_⟩, I.loc, I.cell, non _ I.free, fun x c e => non c (I.freeC x c e), fun p hp => ?_, hok_clr I.hok n, I.len⟩
  · obtain ⟨m, q⟩ := I.base.tbls b ps e
    exact ⟨m, clr_some n q fun φ z => by cases z⟩
  · obtain ⟨h1, h2, h3, h4, h5⟩ := I.pin p hp
    exact ⟨h1, non _ h2, h3, h4, h5⟩
end
/-- who asks: X at σi, its slots σ, w, env (a comprehension has one slot more); the sleeper (its frame stands at sz) owns Fg -/
structure Ask (Γ : Gam) (X : Cx) (pins : List (Addr × Obj)) (A : List Nat) (σ1 : St) (w1 : Wd) (sz : Nat) (Fg : Nat → Addr → Prop) (σi σ : St) (w : Wd) (env : Env Γ) (s : Shared) : Prop where
  inv : Inv X pins σi w.H s
  er : ER Γ w σ env
  st : Step w1 w
  ag : Agree A σ1 σ
  gsub : ∀ i a, Fg i a → w.M a
  gdis : ∀ i j a, w.F i a → ¬ Fg j a
  gnew : ∀ i a, Fg i a → w1.H a = none ∨ ∃ j, w1.F j a
  size : sz ≤ s.heap.objs.size
section
variable {Γ : Gam} {X : Cx} {pins : List (Addr × Obj)} {A : List Nat} {σ1 : St} {w1 : Wd} {g : GP Γ}
/-- while the generator runs: what is not its own stays -/
theorem okThere {P : Program} {w : World} {H : Hp} {h : Heap} {a : Addr} {u : HO} (x : ObjOk P w H h a u) : ∃ o, h.get? a = some o := by
  cases u with
  | lst xs => obtain ⟨_, _, _, _, e⟩ := x; exact ⟨_, e⟩
  | tup xs => obtain ⟨_, _, _, o, e, _⟩ := x; exact ⟨_, e⟩
  | dK kvs => obtain ⟨_, _, _, _, o, _, _, e, _⟩ := x; exact ⟨_, e⟩
  | dT kvs => obtain ⟨_, _, _, _, o, _, _, e, _⟩ := x; exact ⟨_, e⟩
  | set S n => obtain ⟨o, _, _, _, e, _⟩ := x; exact ⟨_, e⟩
  | ins C dx fs => obtain ⟨_, _, _, e, _⟩ := x; exact ⟨_, e⟩
  | own y => exact x
  | xd fs => obtain ⟨_, ⟨_, _, _, e, _⟩, _⟩ := x; exact ⟨_, e⟩
  | rng lo hi => obtain ⟨_, _, _, e⟩ := x; exact ⟨_, e⟩
  | frz ob u => obtain ⟨e, _⟩ := x; exact ⟨_, e⟩
  | tbl ps => exact ⟨_, x⟩
  | met f y => exact ⟨_, x⟩
  | ext φ => exact x.2.1
theorem Ask.runs {T : Addr → Prop} {s₀ s₁ : Shared} {wd : WD Γ} {ip : List (Addr × Obj)} {σg σi σ : St} {wg : Wd} {envg : Env Γ} {Fc : Nat → Addr → Prop} (dom1 : ∀ a, w1.M a → w1.H a ≠ none) (hP : g.P = X.prog) (hw : g.w = X.w) (ho : g.outer = X.stack) (off : ∀ b, g.sz ≤ b → ¬ T b → Off X pins b) (frl : ∀ b ∈ frs X.stack, b < g.sz)
    (h : Ask Γ X pins A σ1 w1 g.sz wd.w.F σi σ ⟨wd.w.M, Fc, wd.w.H⟩ wd.c s₀) (hT : ∀ b, T b → (∃ o, (b, o) ∈ wd.ep ∧ s₀.heap.get? b = some o) ∨ (wd.w.H b ≠ none ∧ ∀ i, ¬ wd.w.F i b)) (G : GAt g s₀ wd ip σg wg envg s₁) : Ask Γ X pins A σ1 w1 g.sz wg.F σi σ ⟨wg.M, Fc, wg.H⟩ wd.c s₁ := by
  have I := h.inv
  have J := G.inv
  have u0 := J.base
  have notF : ∀ a, w1.H a ≠ none → (∀ j, ¬ w1.F j a) → ∀ i, ¬ wd.w.F i a := fun a q q2 i f => (h.gnew i a f).elim q fun ⟨j, z⟩ => q2 j z
  have sz1 : g.sz < s₁.heap.objs.size := J.lt
  let ch : List Addr := (List.range s₀.heap.objs.size).filter fun b => decide (g.sz ≤ b ∧ ¬ T b)
  have inch : ∀ b o, s₀.heap.get? b = some o → b ∉ ch → b < g.sz ∨ T b := fun b o e hb => by
    have hl := Heap.lt_size e
    rcases Nat.lt_or_ge b g.sz with z | z
    · exact .inl z
    · by_cases t : T b
      · exact .inr t
      · exact absurd (List.mem_filter.mpr ⟨List.mem_range.mpr hl, by simpa using ⟨z, t⟩⟩) hb
  have chin : ∀ b ∈ ch, g.sz ≤ b ∧ ¬ T b := fun b hb => by simpa using (List.mem_filter.mp hb).2
  have tr : ∀ b o, s₀.heap.get? b = some o → b < g.sz → (truncS s₀ g.sz).heap.get? b = some o := fun b o e l => (trunc_lt l).trans e
  have epk : ∀ b o, (b, o) ∈ wd.ep → s₁.heap.get? b = some o ∧ wg.H b = none := fun b o hm => by
    obtain ⟨q1, q2, _⟩ := J.pin (b, o) (List.mem_append_right _ (List.mem_append_left _ hm))
    exact ⟨q1, q2⟩
  have un : Un (frs X.stack) ch wd.w.H wg.H s₀.heap s₁.heap := by
    refine ⟨fun b o e n hb hc => ?_, fun b o e n hb hc => u0.slot b o (tr b o e (frl b hb)) n (by show b ∈ frs g.outer; rw [ho]; exact hb) (by simp [GP.cx]), fun b o e n hc => ?_, fun b o e hc => ?_, u0.tups, u0.frzs, u0.tbls⟩
    · rcases inch b o e hc with l | t
      · exact u0.keep b o (tr b o e l) n (by show b ∉ frs g.outer; rw [ho]; exact hb) (by simp [GP.cx])
      · rcases hT b t with ⟨o', hm, e'⟩ | ⟨q, _⟩
        · rw [e] at e'; cases e'
          exact (epk b o hm).1
        · exact absurd n q
    · rcases inch b o e hc with l | t
      · exact u0.free b o (tr b o e l) n (by simp [GP.cx])
      · rcases hT b t with ⟨o', hm, e'⟩ | ⟨q, _⟩
        · exact (epk b o' hm).2
        · exact absurd n q
    · rcases inch b o e hc with l | t
      · exact u0.there b o (tr b o e l) (by simp [GP.cx])
      · rcases hT b t with ⟨o', hm, e'⟩ | ⟨q, nf⟩
        · exact ⟨o', (epk b o' hm).1⟩
        · cases eu : wd.w.H b with
          | none => exact absurd eu q
          | some u => exact okThere (J.hok b u (G.st.keep b u nf eu))
  have hok : HOk X.prog X.w wg.H s₁.heap := by
    have := J.hok
    show HOk X.prog X.w wg.H s₁.heap
    rw [← hP, ← hw]; exact this
  refine ⟨I.call' (ch := ch) J.os un hok J.bare fun b hb => ?_, h.er.woke rfl (fun a u q e => G.st.keep a u (fun i f => ?_) e) (fun a n e z => ?_) (fun i a f => G.st.mu a (fun j z => h.gdis i j a f z) (h.er.sub i a f)) G.er.dom, ⟨fun a u n e => ?_, fun a n m => ?_, fun a m => ?_, fun i a f => h.st.own i a f, fun a n => G.st.live a (h.st.live a n)⟩, h.ag, G.er.sub, fun i j a f1 f2 => ?_, fun i a f => ?_, Nat.le_of_lt sz1⟩
  · obtain ⟨q1, q2, q3, q4, q5⟩ := off b (chin b hb).1 (chin b hb).2
    exact ⟨q1, q2, q4, q5⟩
  · rcases q with q | ⟨j, q⟩
    · exact q (h.gsub i a f)
    · exact h.gdis j i a q f
  · rcases G.st.src a z with q | q
    · exact n q
    · exact e q
  · exact G.st.keep a u (notF a (by rw [e]; simp) n) (h.st.keep a u n e)
  · exact G.st.mu a (notF a (dom1 a m) n) (h.st.mu a n m)
  · rcases G.st.src a m with q | q
    · exact h.st.src a q
    · refine .inr ?_
      cases z : w1.H a with
      | none => rfl
      | some u => exact absurd q (h.st.live a (by rw [z]; simp))
  · rcases G.st.own j a f2 with ⟨l, q⟩ | q
    · exact h.gdis i l a f1 q
    · exact h.er.dom a (h.er.sub i a f1) q
  · rcases G.st.own i a f with ⟨l, q⟩ | q
    · exact h.gnew l a q
    · refine .inl ?_
      cases z : w1.H a with
      | none => rfl
      | some u => exact absurd q (h.st.live a (by rw [z]; simp))
end
end G

set_option maxHeartbeats 4000000
namespace G
open PySem L2 Asl
open Classical
section
variable {Γ : Gam} {X : Cx} {pins : List (Addr × Obj)} {A : List Nat} {σ1 : St} {w1 : Wd} {g : GP Γ}
theorem GAt.priv {s₀ s₁ : Shared} {wd : WD Γ} {ip : List (Addr × Obj)} {σg : St} {wg : Wd} {envg : Env Γ} (G : GAt g s₀ wd ip σg wg envg s₁) : ∀ b, Priv g ip b → wg.H b = none ∧ (∃ o, s₁.heap.get? b = some o) ∧ g.sz ≤ b := fun b hb => by
  have J := G.inv
  rcases hb with rfl | ⟨x, e⟩ | ⟨p, hp, rfl⟩
  · obtain ⟨m, ⟨o, es, ep, ho, r⟩, hl⟩ := J.loc
    exact ⟨J.free, ⟨o, ho⟩, Nat.le_refl _⟩
  · obtain ⟨v, o, ho, hd⟩ := J.cell x b e
    refine ⟨J.freeC x b e, ⟨o, ho⟩, ?_⟩
    have := J.ok.cab x b rfl e
    rw [G.young] at this; exact this
  · obtain ⟨h1, h2, _⟩ := J.pin p (by
      rcases List.mem_append.mp hp with z | z
      · exact List.mem_append_left _ z
      · exact List.mem_append_right _ (List.mem_append_right _ z))
    exact ⟨h2, ⟨p.2, h1⟩, G.yip p hp⟩
/-- the world in which the asker's own statements run -/
noncomputable def wLay (Pv : Addr → Prop) (h : Heap) (F : Nat → Addr → Prop) (w : Wd) : Wd := ⟨fun a => w.M a ∨ Pv a, F, layH Pv h w.H⟩
noncomputable def wClr (Pv : Addr → Prop) (F : Nat → Addr → Prop) (w : Wd) : Wd := ⟨fun a => w.M a ∧ ¬ Pv a, F, clrH Pv w.H⟩
theorem Ask.turn {T : Addr → Prop} {s₀ s₁ : Shared} {wd : WD Γ} {ip : List (Addr × Obj)} {σg σi σ : St} {wg : Wd} {env envg : Env Γ} {Fc Fg : Nat → Addr → Prop} (off : ∀ b, g.sz ≤ b → ¬ T b → Off X pins b) (hPT : ∀ b, Priv g ip b → ¬ T b) (G : GAt g s₀ wd ip σg wg envg s₁)
    (h : Ask Γ X pins A σ1 w1 g.sz Fg σi σ ⟨wg.M, Fc, wg.H⟩ env s₁) (hdom : ∀ a, w1.M a → w1.H a ≠ none) : Inv X pins σi (wLay (Priv g ip) s₁.heap Fc wg).H s₁ ∧ ER Γ (wLay (Priv g ip) s₁.heap Fc wg) σ env ∧ Step ⟨wg.M, Fc, wg.H⟩ (wLay (Priv g ip) s₁.heap Fc wg) ∧ Step w1 (wLay (Priv g ip) s₁.heap Fc wg) := by
  have pv := G.priv
  have pn : ∀ b, Priv g ip b → wg.H b = none := fun b p => (pv b p).1
  have st : Step ⟨wg.M, Fc, wg.H⟩ (wLay (Priv g ip) s₁.heap Fc wg) := ⟨fun a u _ e => lay_some pn e, fun a _ m => .inl m, fun a m => m.elim .inl fun p => .inr (pn a p), fun i a f => .inl ⟨i, f⟩, fun a n => by
    cases e : wg.H a with
    | none => exact absurd e n
    | some u => rw [show (wLay (Priv g ip) s₁.heap Fc wg).H a = some u from lay_some pn e]; simp⟩
  refine ⟨Inv.lay h.inv pn (fun b p => (pv b p).2.1) fun b p => off b (pv b p).2.2 (hPT b p), h.er.woke rfl (fun a u _ e => lay_some pn e) (fun a n e z => z.elim n fun p => e (pn a p)) (fun i a f => .inl (h.er.sub i a f)) (fun a m => ?_), st, h.st.trans st hdom⟩
  rcases m with m | p
  · exact st.live a (h.er.dom a m)
  · rw [show (wLay (Priv g ip) s₁.heap Fc wg).H a = _ from lay_in p]; simp
/-- the asker is ready to wake it again -/
theorem Ask.ready {T : Addr → Prop} {ep' : List (Addr × Obj)} {s₀ s₁ s3 : Shared} {wd : WD Γ} {ip : List (Addr × Obj)} {σg σi σ σ6i σ6 : St} {wg w6 : Wd} {env envg e1 c6 : Env Γ} {Fc Fg : Nat → Addr → Prop} {G3 : Array GenState} (off : ∀ b, g.sz ≤ b → ¬ T b → Off X pins b) (hPT : ∀ b, Priv g ip b → ¬ T b) (hdom : ∀ a, w1.M a → w1.H a ≠ none) (fr1 : ∀ b, Priv g ip b → w1.H b = none)
    (hP : g.P = X.prog) (hw : g.w = X.w) (hbs : g.base = X.base) (ho : g.outer = X.stack)
    (G : GAt g s₀ wd ip σg wg envg s₁) (erg : ER Γ ⟨wg.M, Fg, wg.H⟩ σg e1) (h : Ask Γ X pins A σ1 w1 g.sz Fg σi σ ⟨wg.M, Fc, wg.H⟩ env s₁) (I6 : Inv X pins σ6i w6.H s3) (E6 : ER Γ w6 σ6 c6) (p6 : Step (wLay (Priv g ip) s₁.heap Fc wg) w6) (a6 : Agree A σ1 σ6) (hG : PyProof.Rows.AllBare G3)
    (hep : ∀ p ∈ ep', s3.heap.get? p.1 = some p.2 ∧ w6.H p.1 = none ∧ ¬ Priv g ip p.1 ∧ p.1 ∉ frs X.stack ∧ ∀ v, p.2.data ≠ .cell v) :
    Ask Γ X pins A σ1 w1 g.sz Fg σ6i σ6 (wClr (Priv g ip) w6.F w6) c6 { s3 with gens := G3 } ∧ ER Γ (wClr (Priv g ip) Fg w6) σg e1 ∧ (∀ b o, Priv g ip b → s₁.heap.get? b = some o → s3.heap.get? b = some o) ∧
      ∀ (F' : Nat → Addr → Prop) (e' c' : Env Γ), ER Γ (wClr (Priv g ip) F' w6) σg e' → Wk g ip σg wg s₁ ⟨wClr (Priv g ip) F' w6, ep', c'⟩ e' { s3 with gens := G3 } := by
  have pv := G.priv
  obtain ⟨I1, E1, st1, stw⟩ := h.turn off hPT G hdom
  have pn : ∀ b, Priv g ip b → wg.H b = none := fun b p => (pv b p).1
  have pM : ∀ b, Priv g ip b → ¬ wg.M b := fun b p m => G.er.dom b m (pn b p)
  have pF : ∀ b, Priv g ip b → ∀ i, ¬ Fc i b := fun b p i f => pM b p (h.er.sub i b f)
  have layN : ∀ b, Priv g ip b → (wLay (Priv g ip) s₁.heap Fc wg).H b ≠ none := fun b p => by rw [show (wLay (Priv g ip) s₁.heap Fc wg).H b = _ from lay_in p]; simp
  have ext : ∀ b, Priv g ip b → w6.H b = some (.ext fun h' => h'.get? b = s₁.heap.get? b) := fun b p => p6.keep b _ (pF b p) (lay_in p)
  have ext' : ∀ b, Priv g ip b → ∃ φ, w6.H b = some (.ext φ) := fun b p => ⟨_, ext b p⟩
  have pF6 : ∀ b, Priv g ip b → ∀ i, ¬ w6.F i b := fun b p i f => by
    rcases p6.own i b f with ⟨j, z⟩ | z
    · exact pF b p j z
    · exact layN b p z
  have p1 := fr1
  have no : ∀ a, ¬ Priv g ip a → w6.H a ≠ none → clrH (Priv g ip) w6.H a ≠ none := fun a n e => by rw [clr_out n]; exact e
  have st6 := stw.trans p6 hdom
  have still : ∀ b, Priv g ip b → s3.heap.get? b = s₁.heap.get? b := fun b p => by
    have := I6.hok b _ (ext b p)
    exact this.1
  have dis6 : ∀ i j a, w6.F i a → ¬ Fg j a := fun i j a f1 f2 => by
    rcases p6.own i a f1 with ⟨l, z⟩ | z
    · exact h.gdis l j a z f2
    · exact st1.live a (h.er.dom a (h.gsub j a f2)) z
  have gM6 : ∀ i a, Fg i a → w6.M a ∧ ¬ Priv g ip a := fun i a f => ⟨p6.mu a (fun j z => h.gdis j i a z f) (.inl (h.gsub i a f)), fun p => pM a p (h.gsub i a f)⟩
  have dom7 : ∀ a, w6.M a ∧ ¬ Priv g ip a → clrH (Priv g ip) w6.H a ≠ none := fun a m => no a m.2 (E6.dom a m.1)
  have sz3 : g.sz < s3.heap.objs.size := by
    obtain ⟨o, e⟩ := (pv g.sz (.inl rfl)).2.1
    rw [← still g.sz (.inl rfl)] at e
    exact Heap.lt_size e
  have hok3 : HOk X.prog X.w (clrH (Priv g ip) w6.H) s3.heap := hok_clr I6.hok ext'
  have non : ∀ b, w6.H b = none → clrH (Priv g ip) w6.H b = none := fun b e => by
    by_cases p : Priv g ip b
    · exact clr_in p
    · rw [clr_out p]; exact e
  have goK : ∀ a u, (¬ wg.M a ∨ ∃ i, Fg i a) → wg.H a = some u → clrH (Priv g ip) w6.H a = some u := fun a u q e => by
    have np : ¬ Priv g ip a := fun p => by rw [pn a p] at e; cases e
    have nF : ∀ i, ¬ Fc i a := fun i f => by
      rcases q with q | ⟨j, q⟩
      · exact q (h.er.sub i a f)
      · exact h.gdis i j a f q
    rw [clr_out np]
    exact p6.keep a u nF (st1.keep a u nF e)
  have goS : ∀ a, ¬ wg.M a → wg.H a ≠ none → ¬ (w6.M a ∧ ¬ Priv g ip a) := fun a n e z => by
    rcases p6.src a z.1 with q | q
    · exact q.elim n z.2
    · exact st1.live a e q
  refine ⟨⟨Inv.gens (Inv.clr I6 ext') hG, E6.woke rfl (fun a u q e => ?_) (fun a n e z => n z.1) (fun i a f => ⟨E6.sub i a f, fun p => pF6 a p i f⟩) dom7, ⟨fun a u n e => ?_, fun a n m => ⟨st6.mu a n m, fun p => hdom a m (p1 a p)⟩, fun a m => st6.src a m.1, fun i a f => st6.own i a f, fun a n => no a (fun p => n (p1 a p)) (st6.live a n)⟩, a6, gM6, dis6, h.gnew, Nat.le_of_lt sz3⟩,
    erg.woke rfl goK goS gM6 dom7, fun b o p e => (still b p).trans e, fun F' e' c' er' => ⟨I6.os.trans h.inv.os.symm, hG, Nat.le_of_lt sz3, fun b o e => ?_, ?_, fun b hb => ?_, ?_, fun b p o e => ⟨(still b p).trans e, clr_in p⟩, fun p hp => ?_, ⟨fun a u n e => goK a u (.inl n) e, goS⟩, er'⟩⟩
  · have np : ¬ Priv g ip a := fun p => by
      rcases q with q | ⟨i, q⟩
      · exact q (p6.mu a (pF a p) (.inr p))
      · exact pF6 a p i q
    show clrH (Priv g ip) w6.H a = some u
    rw [clr_out np]; exact e
  · have np : ¬ Priv g ip a := fun p => by rw [p1 a p] at e; cases e
    show clrH (Priv g ip) w6.H a = some u
    rw [clr_out np]; exact st6.keep a u n e
  · rw [hbs] at e
    obtain ⟨q1, q2⟩ := I6.bs b o e
    exact ⟨q1, non b q2⟩
  · rw [hbs, ho]; exact I6.stack
  · rw [ho] at hb
    exact non b (I6.stkFree b hb)
  · rw [hP, hw]; exact hok3
  · obtain ⟨q1, q2, q3, q4, q5⟩ := hep p hp
    exact ⟨q1, non p.1 q2, q3, by rw [ho]; exact q4, q5⟩
end
end G

set_option maxHeartbeats 4000000
namespace G
open PySem L2 Asl
section
variable {Γ : Gam} {X : Cx} {pins : List (Addr × Obj)} {xc : Nat → Addr} {W : WX} {σ : St} {H : Hp}
/-- an expression whose value is a generator that has not begun -/
def wGen (X : Cx) (k : Nat) (xc : Nat → Addr) (gx : Gx Γ) (L : List Nat) (e : Expr) : TA := fun σ H Q => ∀ pins s, Inv X pins σ H s →
  wpAny (model X.prog X.w) X.A (eval e X.env) (fun u s' => ∃ vs H1 sc, Inv X pins σ H1 sc ∧ GMq X.prog X.w X.base k X.stack H1 sc xc gx L vs u s' ∧ Q vs H1) X.xe s
structure SdXGenC (Γ : Gam) (X : Cx) (xc : Nat → Addr) (W : WX) (k : Nat) (gx : Gx Γ) (L : List Nat) (C : Env Γ → Prop) (e : Expr) (as : List (XA Γ)) : Prop where
  run : Gd Γ X → ∀ (σ : St) (env : Env Γ) (w : Wd) (K : List (Ag Γ) → Env Γ → Prop) (KX : Er → Env Γ → Prop) (Q : List V → Hp → Prop), C env → evX as env K KX → ER Γ w σ env →
    (∀ xs vs Frs env' w', K xs env' → ER Γ w' σ env' → ARs Γ w' σ vs xs Frs → (∀ G ∈ Frs, Fresh w G) → Step w w' → Q vs w'.H) → (∀ x env', KX x env' → ZPostE Γ xc σ w W x env') → wGen X k xc gx L e σ w.H Q
abbrev SdXGen (Γ : Gam) (X : Cx) (xc : Nat → Addr) (W : WX) (k : Nat) (gx : Gx Γ) (L : List Nat) (e : Expr) (as : List (XA Γ)) : Prop := SdXGenC Γ X xc W k gx L (fun _ => True) e as
def isDat {Γ : Gam} : Sl Γ → Bool
  | .dat _ => true
  | _ => false
/-- arguments that are data -/
def xArgs {Γ : Gam} (as : List (XA Γ)) (env : Env Γ) (K : List (Sl Γ) → Env Γ → Prop) (KX : Er → Env Γ → Prop) : Prop := evX as env (fun xs e => ∃ ss, peeks xs e = some ss ∧ ss.all isDat = true ∧ K ss e) KX
theorem srs_er {w : Wd} (dom : ∀ a, w.M a → w.H a ≠ none) : ∀ {vs : List V} {ss : List (Sl Γ)}, SRs Γ w.M w.H vs ss → ss.all isDat = true → vs.length = ss.length ∧ ∀ (i : Nat) (s : Sl Γ), ss[i]? = some s → ∃ v, (vs.map some)[i]? = some (some v) ∧ SR Γ w.M w.H v s (fun _ => False)
  | _, _, .nil, _ => ⟨rfl, fun i s e => by simp at e⟩
  | _, _, .cons (v := v) (s := s) h r, a => by
    rw [List.all_cons, Bool.and_eq_true] at a
    obtain ⟨h1, h2⟩ := srs_er dom r a.2
    refine ⟨by rw [List.length_cons, List.length_cons, h1], fun i s' e => ?_⟩
    cases i with
    | zero =>
      have e' : s = s' := by simpa using e
      subst e'
      cases s with
      | dat d => exact ⟨v, by simp, h.1, fun _ z => z⟩
      | _ => cases a.1
    | succ i =>
      obtain ⟨v', q1, q2⟩ := h2 i s' (by simpa using e)
      exact ⟨v', by simpa using q1, q2⟩
theorem er_args {w : Wd} {vs : List V} {ss : List (Sl Γ)} (dom : ∀ a, w.M a → w.H a ≠ none) (r : SRs Γ w.M w.H vs ss) (a : ss.all isDat = true) : ER Γ ⟨w.M, fun _ _ => False, w.H⟩ (vs.map some) ss := by
  obtain ⟨h1, h2⟩ := srs_er dom r a
  refine ⟨by rw [List.length_map]; exact h1.symm, fun i s e => .inr (h2 i s e), fun _ _ z => z.elim, fun _ _ _ z => z.elim, dom, fun _ _ _ z => z⟩
theorem wl_mono : ∀ {es : List Expr} {σ : St} {H : Hp} {Q Q' : List V → Hp → Prop}, wL X es σ H Q → (∀ vs H1, Q vs H1 → Q' vs H1) → wL X es σ H Q'
  | [], _, _, _, _, h, k => k _ _ h
  | e :: es, σ, H, Q, Q', h, k => fun pins s I => wpAny_mono (h pins s I) (fun u s' ⟨v, H', I', r, q⟩ => ⟨v, H', I', r, wl_mono (Q := fun vs H1 => Q (v :: vs) H1) q fun vs H1 z => k _ _ z⟩) fun _ _ z => z
theorem wl_len : ∀ {es : List Expr} {σ : St} {H : Hp} {Q : List V → Hp → Prop}, wL X es σ H Q → wL X es σ H fun vs H1 => vs.length = es.length ∧ Q vs H1
  | [], _, _, _, h => ⟨rfl, h⟩
  | e :: es, σ, H, Q, h => fun pins s I => wpAny_mono (h pins s I) (fun u s' ⟨v, H', I', r, q⟩ => ⟨v, H', I', r, wl_mono (wl_len (Q := fun vs H1 => Q (v :: vs) H1) q) fun vs H1 z => ⟨by rw [List.length_cons, List.length_cons, z.1], z.2⟩⟩) fun _ _ z => z
theorem SdXGen.dat {k : Nat} {gx : Gx Γ} {L : List Nat} {e : Expr} {as : List (XA Γ)} (h : SdXGen Γ X xc W k gx L e as) (hK : Gd Γ X) (σ : St) (env : Env Γ) (w : Wd) (K : List (Sl Γ) → Env Γ → Prop) (KX : Er → Env Γ → Prop) (Q : List V → Hp → Prop) (he : xArgs as env K KX) (E : ER Γ w σ env)
    (kk : ∀ args vs env' w', K args env' → ER Γ w' σ env' → ER Γ ⟨w'.M, fun _ _ => False, w'.H⟩ (vs.map some) args → Step w w' → Q vs w'.H) (kx : ∀ x env', KX x env' → ZPostE Γ xc σ w W x env') : wGen X k xc gx L e σ w.H Q :=
  SdXGenC.run h hK σ env w _ KX Q trivial he E (fun xs vs Frs env' w' hk E1 A1 f1 p1 => by
    obtain ⟨ss, q1, q2, q3⟩ := hk
    exact kk ss vs env' w' q3 E1 (er_args E1.dom (A1.peeks E1 q1) q2) p1) kx
/-- a generator def as it may be called -/
structure CgX (Γ : Gam) (P : Program) (w : World) (mg : Str → Option Value) (base : Heap) (xc : Nat → Addr) (x : Str) (np : Nat) (gx : Gx Γ) (L : List Nat) (k : Nat) : Prop where
  ex : ∃ f fd ps, GFq P w mg base k f fd ps xc gx L ∧ ps.length = np ∧ mg x = some (.ref f) ∧ PySem.W.keepIn Γ.K (.ref f) = true ∧ Binds Γ.K fd ps []
theorem sdxgen_call {x : Str} {np k j : Nat} {gx : Gx Γ} {L : List Nat} {e : Expr} {es : List Expr} {as : List (XA Γ)} {p pos : Pos} (hK : Γ.K = X.K) (c : CgX Γ X.prog X.w X.mg X.base xc x np gx L k) (hr : Room j X.A) (hkj : k ≤ j) (hnp : (e :: es).length = np) (hg : Gl X x) (ha : SdXL Γ X xc W (e :: es) as) (hdb : (x == ("__debug__" : Str)) = false := by decide)
    (hpl : (backTo pos (starEach es X.env)).any (·.1) = false := by rfl) : SdXGen Γ X xc W k gx L (.Call (.Name x p) (e :: es) [] pos) as := by
  obtain ⟨f, fd, ps, h1, h0, h2, h3, h4⟩ := c
  refine ⟨fun hK' σ env w K KX Q _ he E kk kx => ?_⟩
  have run : wL X (e :: es) σ w.H fun vs H1 => vs.length = (e :: es).length ∧ Q vs H1 := wl_len (xl_run hK' ha he E (fun xs env' vs w1 Frs hk E1 A1 p1 f1 => kk xs vs Frs env' w1 hk E1 A1 f1 p1) kx)
  intro pins s I
  refine wpAny_Call_Name_kw (ld_glob I hg h2 ?_ hdb)
  refine PySem.W.callWith_K (h₀ := X.base) I.ok.mod.kin (hK ▸ h3) (thn ((pa_wL ha.ns).run pos pins s σ w.H _ I run) fun us s1 out => ?_) (ha.ns e List.mem_cons_self es) hpl
  obtain ⟨vs, H1, I1, rv, hl, hq1⟩ := out
  refine ⟨I1.kIn, ?_⟩
  have hl2 : vs.length = ps.length := by rw [hl, hnp, h0]
  have e0 : Env0 X.prog X.w Γ.K X.mg X.base X.A X.stack s1 H1 := by rw [hK]; exact I1.env0
  refine wpAny_call (codeAny_mono (h1.run X.A X.stack s1 H1 ⟨us, []⟩ us vs (hr.mono hkj) e0 ?_ rv hl2) fun r s' hq => ?_)
  · have b := h4 s1 us (by rw [hK]; exact I1.kIn) (by rw [List.append_nil, ← rv.length]; exact hl2)
    rw [List.append_nil] at b
    exact b
  · cases r with
    | error e => exact False.elim hq
    | ok fl =>
      cases fl with
      | ret u => exact ⟨vs, H1, s1, I1, hq, hq1⟩
      | next => exact False.elim hq
      | brk => exact False.elim hq
      | cont => exact False.elim hq
end
end G

set_option maxHeartbeats 4000000
namespace G
open PySem L2 Asl
section
variable {Γ : Gam} {X : Cx} {pins : List (Addr × Obj)} {A : List Nat} {σ1 σ : St} {w1 : Wd} {xc : Nat → Addr} {W : WX}
theorem Ask.world {sz : Nat} {wd : WD Γ} {Fc : Nat → Addr → Prop} {s₀ : Shared} {w' : Wd} (dom1 : ∀ a, w1.M a → w1.H a ≠ none) {σi : St} (h : Ask Γ X pins A σ1 w1 sz wd.w.F σi σ ⟨wd.w.M, Fc, wd.w.H⟩ wd.c s₀) (st : Step wd.w w') (dom : ∀ a, w'.M a → w'.H a ≠ none) : ER Γ ⟨w'.M, Fc, w'.H⟩ σ wd.c ∧ Step w1 ⟨w'.M, Fc, w'.H⟩ := by
  have notF : ∀ a, w1.H a ≠ none → (∀ j, ¬ w1.F j a) → ∀ i, ¬ wd.w.F i a := fun a q q2 i f => (h.gnew i a f).elim q fun ⟨j, z⟩ => q2 j z
  refine ⟨h.er.woke rfl (fun a u q e => st.keep a u (fun i f => ?_) e) (fun a n e z => ?_) (fun i a f => st.mu a (fun j z => h.gdis i j a f z) (h.er.sub i a f)) dom, ⟨fun a u n e => st.keep a u (notF a (by rw [e]; simp) n) (h.st.keep a u n e), fun a n m => st.mu a (notF a (dom1 a m) n) (h.st.mu a n m), fun a m => ?_, fun i a f => h.st.own i a f, fun a n => st.live a (h.st.live a n)⟩⟩
  · rcases q with q | ⟨j, q⟩
    · exact q (h.gsub i a f)
    · exact h.gdis j i a q f
  · rcases st.src a z with q | q
    · exact n q
    · exact e q
  · rcases st.src a m with q | q
    · exact h.st.src a q
    · refine .inr ?_
      cases z : w1.H a with
      | none => rfl
      | some u => exact absurd q (h.st.live a (by rw [z]; simp))
end
end G

set_option maxHeartbeats 4000000
namespace G
open PySem L2 Asl
open Sem (wp)
/-- it does not look at the table of generators, and has one way -/
structure Blind {α : Type} (t : Sem α) : Prop where
  out : ∀ (M : Model) (Γ : Ctx) (ι : Type) (i0 : ι) (G : ι → Array GenState) (P : ι → α → Pos → Shared → Prop) (Ee : ι → Value → Pos → Shared → Prop) (p : Pos) (s : Shared), (∀ i, wp M Γ t (P i) (Ee i) p { s with gens := G i }) →
    wp M Γ t (fun a p' s' => s'.gens = s.gens ∧ ∀ i, P i a p' { s' with gens := G i }) (fun e p' s' => s'.gens = s.gens ∧ ∀ i, Ee i e p' { s' with gens := G i }) p s
namespace Blind
variable {α β : Type}
theorem pure (a : α) : Blind (Pure.pure a : Sem α) := ⟨fun M Γ ι i0 G P Ee p s h => ⟨rfl, h⟩⟩
theorem unsupported (w : String) : Blind (PySem.unsupported w : Sem α) := ⟨fun M Γ ι i0 G P Ee p s h => (h i0).elim⟩
theorem bind {m : Sem α} {f : α → Sem β} (hm : Blind m) (hf : ∀ a, Blind (f a)) : Blind (m >>= f) := ⟨fun M Γ ι i0 G P Ee p s h => by
  rw [Sem.wp_bind']
  refine Sem.wp_mono M Γ m (fun a p' s' h' => ?_) (fun _ _ _ x => x) p s (hm.out M Γ ι i0 G (fun i a p' s' => wp M Γ (f a) (P i) (Ee i) p' s') Ee p s fun i => by have := h i; rw [Sem.wp_bind'] at this; exact this)
  refine Sem.wp_mono M Γ (f a) (fun b p2 s2 h2 => ⟨h2.1.trans h'.1, h2.2⟩) (fun e p2 s2 h2 => ⟨h2.1.trans h'.1, h2.2⟩) p' s' ((hf a).out M Γ ι i0 G P Ee p' s' h'.2)⟩
theorem load (a : Addr) : Blind (PySem.load a) := ⟨fun M Γ ι i0 G P Ee p s h => by
  obtain ⟨o, ho, _⟩ := h i0
  refine ⟨o, ho, rfl, fun i => ?_⟩
  obtain ⟨o', ho', q⟩ := h i
  have e : s.heap.get? a = some o' := ho'
  rw [ho] at e; cases e
  exact q⟩
theorem update (a : Addr) (f : Obj → Obj) : Blind (PySem.update a f) := ⟨fun M Γ ι i0 G P Ee p s h => ⟨(h i0).1, rfl, fun i => (h i).2⟩⟩
theorem stack : Blind PySem.stack := ⟨fun M Γ ι i0 G P Ee p s h => ⟨rfl, fun i => h i⟩⟩
theorem alloc (o : Obj) : Blind (PySem.alloc o) := ⟨fun M Γ ι i0 G P Ee p s h => ⟨rfl, fun i => h i⟩⟩
theorem field (v : Value) (i : Nat) : Blind (PySem.field v i) := ⟨fun M Γ ι i0 G P Ee p s h => by
  obtain ⟨a, o, vs, x, e, ho, hd, hx, _⟩ := (wp_field_iff Γ v i _ _ _ _).mp (h i0)
  refine (wp_field_iff Γ v i _ _ _ _).mpr ⟨a, o, vs, x, e, ho, hd, hx, rfl, fun j => ?_⟩
  obtain ⟨a', o', vs', x', e', ho', hd', hx', q⟩ := (wp_field_iff Γ v i _ _ _ _).mp (h j)
  rw [e] at e'; cases e'
  have z : s.heap.get? a = some o' := ho'
  have z0 : s.heap.get? a = some o := ho
  rw [z0] at z; cases z
  rw [hd] at hd'; cases hd'
  rw [hx] at hx'; cases hx'
  exact q⟩
end Blind
section
variable {X : Cx} {pins : List (Addr × Obj)} {σ : St} {H : Hp} {s : Shared}
theorem Inv.tr {xe : Value → Shared → Prop} (I : Inv X pins σ H s) : Inv (X.tr X.pn xe) pins σ H s := ⟨I.ok.toTry _ _, I.os, I.bare, I.base, I.loc, I.cell, I.free, I.freeC, I.pin, I.hok, I.len⟩
end
section
variable {Γ : Gam} {X : Cx} {xc : Nat → Addr} {W : WX} {A : List Nat}
end
end G

set_option maxHeartbeats 4000000
namespace G
open PySem L2
section
variable {Γ : Gam} {w : Wd} {σ : St} {env : Env Γ} {D : Addr}
def wPush (n : Nat) (D : Addr) (w : Wd) : Wd := ⟨fun a => w.M a ∨ a = D, fun i a => if i = n then a = D else w.F i a, upd w.H D (.lst [])⟩
def wDrop (n : Nat) (w : Wd) : Wd := ⟨w.M, fun i a => i < n ∧ w.F i a, w.H⟩
theorem er_push (E : ER Γ w σ env) (hD : w.H D = none) : ER Γ (wPush env.length D w) (σ ++ [some (.ref D)]) (env ++ [.lst []]) := by
  have nM : ¬ w.M D := fun m => E.dom D m hD
  have nF : ∀ i, ¬ w.F i D := fun i f => nM (E.sub i D f)
  have up : ∀ a u, w.H a = some u → (wPush env.length D w).H a = some u := fun a u e => (upd_ne (fun z => by rw [z, hD] at e; cases e)).trans e
  have go : Go w.M w.H (wPush env.length D w).M (wPush env.length D w).H := ⟨fun a u _ e => up a u e, fun a n e m => m.elim n fun z => e (by rw [z]; exact hD)⟩
  refine ⟨by simp [E.len], fun i s e => ?_, fun i a f => ?_, fun i j a f1 f2 => ?_, fun a m => ?_, fun i hi a f => ?_⟩
  · rcases Nat.lt_trichotomy i env.length with l | l | l
    · rw [List.getElem?_append_left l] at e
      have hs : (σ ++ [some (V.ref D)])[i]? = σ[i]? := List.getElem?_append_left (by rw [← E.len]; exact l)
      have hF : ∀ a, (wPush env.length D w).F i a ↔ w.F i a := fun a => by
        show (if i = env.length then a = D else w.F i a) ↔ _
        rw [if_neg (Nat.ne_of_lt l)]
      have hF' : (wPush env.length D w).F i = w.F i := funext fun a => propext (hF a)
      rcases E.slot i s e with ⟨e1, n⟩ | ⟨v, e1, r⟩
      · exact .inl ⟨e1, fun a f => n a ((hF a).mp f)⟩
      · refine .inr ⟨v, hs.trans e1, ?_⟩
        rw [hF']
        exact r.go go fun a u _ e => up a u e
    · subst l
      have hs : (σ ++ [some (V.ref D)])[env.length]? = some (some (.ref D)) := by rw [E.len]; simp
      have es : s = .lst [] := by
        rw [List.getElem?_append_right (Nat.le_refl _), Nat.sub_self] at e
        exact (Option.some.inj e).symm
      subst es
      refine .inr ⟨.ref D, hs, D, [], rfl, upd_same, .nil, fun a => ?_⟩
      show (if env.length = env.length then a = D else _) ↔ _
      rw [if_pos rfl]
    · rw [List.getElem?_eq_none (by rw [List.length_append, List.length_singleton]; exact l)] at e
      cases e
  · have f' : (if i = env.length then a = D else w.F i a) := f
    split at f'
    · exact .inr f'
    · exact .inl (E.sub i a f')
  · have f1' : (if i = env.length then a = D else w.F i a) := f1
    have f2' : (if j = env.length then a = D else w.F j a) := f2
    split at f1' <;> split at f2'
    · omega
    · subst f1'; exact (nF j f2').elim
    · subst f2'; exact (nF i f1').elim
    · exact E.dis i j a f1' f2'
  · show upd w.H D _ a ≠ none
    by_cases z : a = D
    · subst z; rw [upd_same]; simp
    · rw [upd_ne z]
      exact E.dom a (m.elim id fun q => (z q).elim)
  · have f' : (if i = env.length then a = D else w.F i a) := f
    rw [List.length_append, List.length_singleton] at hi
    rw [if_neg (by omega)] at f'
    exact E.out i (by omega) a f'
theorem st_push (E : ER Γ w σ env) (hD : w.H D = none) : Step w (wPush env.length D w) := by
  refine ⟨fun a u _ e => (upd_ne (fun z => by rw [z, hD] at e; cases e)).trans e, fun a _ m => .inl m, fun a m => m.elim .inl fun z => .inr (by rw [z]; exact hD), fun i a f => ?_, fun a n => ?_⟩
  · have f' : (if i = env.length then a = D else w.F i a) := f
    split at f'
    · exact .inr (by rw [f']; exact hD)
    · exact .inl ⟨i, f'⟩
  · show upd w.H D _ a ≠ none
    by_cases z : a = D
    · subst z; rw [upd_same]; simp
    · rw [upd_ne z]; exact n
/-- the last slot: the list at D -/
theorem er_last {acc : List G.D} {A : Addr} (E : ER Γ w (σ ++ [some (.ref A)]) (env ++ [.lst acc])) (hl : σ.length = env.length) : w.F env.length A ∧ (∀ a, w.F env.length a ↔ a = A) ∧ ∃ vs, w.H A = some (.lst vs) ∧ Dats Γ w.M w.H vs acc := by
  rcases E.slot env.length (.lst acc) (by rw [List.getElem?_append_right (Nat.le_refl _), Nat.sub_self]; rfl) with ⟨z, _⟩ | ⟨v, ev, p, vs, e1, e2, e3, e4⟩
  · cases z
  · have : (σ ++ [some (V.ref A)])[env.length]? = some (some (.ref A)) := by rw [← hl]; simp
    rw [this] at ev
    cases ev
    cases e1
    exact ⟨(e4 A).mpr rfl, e4, vs, e2, e3⟩
theorem er_drop {s : Sl Γ} {o : Option V} (E : ER Γ w (σ ++ [o]) (env ++ [s])) (hl : σ.length = env.length) : ER Γ (wDrop env.length w) σ env := by
  refine ⟨hl.symm, fun i t e => ?_, fun i a f => E.sub i a f.2, fun i j a f1 f2 => E.dis i j a f1.2 f2.2, E.dom, fun i hi a f => absurd f.1 (by omega)⟩
  have l : i < env.length := (List.getElem?_eq_some_iff.mp e).1
  have hF : (wDrop env.length w).F i = w.F i := funext fun a => propext ⟨fun z => z.2, fun z => ⟨l, z⟩⟩
  rcases E.slot i t (by rw [List.getElem?_append_left l]; exact e) with ⟨e1, n⟩ | ⟨v, e1, r⟩
  · exact .inl ⟨e1, fun a f => n a f.2⟩
  · refine .inr ⟨v, by rw [List.getElem?_append_left (by rw [hl]; exact l)] at e1; exact e1, ?_⟩
    rw [hF]; exact r
theorem er_app {acc : List G.D} {A : Addr} {vs : List V} {x : V} {d : G.D} (E : ER Γ w (σ ++ [some (.ref A)]) (env ++ [.lst acc])) (hl : σ.length = env.length) (hv : w.H A = some (.lst vs)) (r : Dats Γ w.M w.H vs acc) (dx : Dat Γ w.M w.H x d) :
    ER Γ ⟨w.M, w.F, upd w.H A (.lst (vs ++ [x]))⟩ (σ ++ [some (.ref A)]) (env ++ [.lst (acc ++ [d])]) ∧ Step w ⟨w.M, w.F, upd w.H A (.lst (vs ++ [x]))⟩ := by
  obtain ⟨hF, hF', _⟩ := er_last E hl
  have hM := E.sub _ _ hF
  have go : Go w.M w.H w.M (upd w.H A (.lst (vs ++ [x]))) := ⟨fun a u n e => (upd_ne (fun z => n (by rw [z]; exact hM))).trans e, fun a n _ => n⟩
  refine ⟨⟨by have := E.len; simpa using this, fun i s e => ?_, E.sub, E.dis, fun a m => ?_, fun i hi => E.out i (by simpa using hi)⟩, fun a u n e => (upd_ne (fun z => n env.length (by rw [z]; exact hF))).trans e, fun a _ m => m, fun a m => .inl m, fun i a f => .inl ⟨i, f⟩, fun a n => ?_⟩
  · rcases Nat.lt_trichotomy i env.length with l | l | l
    · rw [List.getElem?_append_left l] at e
      rcases E.slot i s (by rw [List.getElem?_append_left l]; exact e) with z | ⟨v, e1, q⟩
      · exact .inl z
      · exact .inr ⟨v, e1, q.go go fun a u f e => (upd_ne (fun z => by subst z; exact absurd (E.dis i _ _ f hF) (Nat.ne_of_lt l))).trans e⟩
    · subst l
      have es : s = .lst (acc ++ [d]) := by
        rw [List.getElem?_append_right (Nat.le_refl _), Nat.sub_self] at e
        exact (Option.some.inj e).symm
      subst es
      refine .inr ⟨.ref A, by rw [← hl]; simp, A, vs ++ [x], rfl, upd_same, (r.go go).append (.cons (dx.go go) .nil), hF'⟩
    · rw [List.getElem?_eq_none (by rw [List.length_append, List.length_singleton]; exact l)] at e
      cases e
  · show upd w.H A _ a ≠ none
    by_cases z : a = A
    · subst z; rw [upd_same]; simp
    · rw [upd_ne z]; exact E.dom a m
  · show upd w.H A _ a ≠ none
    by_cases z : a = A
    · subst z; rw [upd_same]; simp
    · rw [upd_ne z]; exact n
end
end G

set_option maxHeartbeats 4000000
namespace G
open PySem L2 Asl
def xLcG {Γ : Gam} (gx : Gx Γ) (as : List (XA Γ)) : Qe Γ := fun env K KX => xArgs as env (fun args c => ∃ n, gx args n (c ++ [.lst []]) (fun _ _ c' => ∃ acc, c' = c ++ [.lst acc] ∧ K (.lst acc) c) (fun _ _ _ => False)
  (fun d _ e c' kd => ∃ acc, c' = c ++ [.lst acc] ∧ acc.length < sizeLine ∧ kd e (c ++ [.lst (acc ++ [d])]))) KX
section
variable {Γ : Gam} {X : Cx} {xc : Nat → Addr} {W : WX}
theorem sdx_lcG {k j i : Nat} {y : Str} {gx : Gx Γ} {L : List Nat} {as : List (XA Γ)} {iter : Expr} {scope : Scope} {q1 q2 pos : Pos} (hgd : X.A.guards = some []) (hr : Room j X.A) (hL0 : L = []) (hkj : k + 1 ≤ j) (hgen : SdXGen Γ X xc W k gx L iter as) (ok : BlkOk X.N X.env.scope scope [(y, i)]) (hi : X.N[i]? = some y) (hnc : ∀ z ∈ scope.names, z.2 ≠ .cell)
    (hg : AllB X scope fun Y => PG Y (.Name y q2) (gName i)) (he : AllB X scope fun Y => PE Y (.Name y q1) (tVar i)) (hs : ∀ x, foldedSetIterable iter X.env x = pure x := by intro _; rfl) : SdX Γ X xc W (.ListComp (.Name y q1) [⟨.Name y q2, iter, [], 0⟩] scope pos) (xLcG gx as) := by
  refine ⟨fun hK σ env w K KX Q he0 E kk kx => ?_⟩
  intro pins s I
  have hr1 : Room (k + 1) X.A := hr.mono hkj
  rw [eval_ListComp]
  have hfree : ∀ y ∈ scope.names, y.2 = .free → ∃ c, X.env.cells.lookup y.1 = some c := fun y hy e => by
    rcases ok.free y hy e with k | k
    · exact I.ok.has _ (.inl k)
    · exact I.ok.has _ (.inr k)
  have run := hgen.dat hK σ env w _ KX (fun vs H1 => ∃ args c w', w'.H = H1 ∧ ER Γ w' σ c ∧ ER Γ ⟨w'.M, fun _ _ => False, w'.H⟩ (vs.map some) args ∧ Step w w' ∧ ∃ n, gx args n (c ++ [.lst []]) (fun _ _ c' => ∃ acc, c' = c ++ [.lst acc] ∧ K (.lst acc) c) (fun _ _ _ => False) (fun d _ e c' kd => ∃ acc, c' = c ++ [.lst acc] ∧ acc.length < sizeLine ∧ kd e (c ++ [.lst (acc ++ [d])]))) he0 E (fun args vs c w' hk E' Ea p' => ⟨args, c, w', rfl, E', Ea, p', hk⟩) kx
  refine wpAny_comprehension_free (use := none) rfl hs (closure_ok hfree) ok.kind (fun y hy e => by rw [ok.uniq y hy, e]) (wpAny_mono (run pins s I) (fun uv s1 h1 => ?_) fun _ _ z => z)
  obtain ⟨vs, H1, sc, Isc, hM, args, c, w1, rfl, E1, Ea, p1, n, hgx⟩ := h1
  obtain ⟨a, gi, code, rfl, ha1, ha2, hgen', hgs, hos, hbare, hlim, hkp, wake⟩ := hM
  have I1 : Inv X pins σ w1.H s1 := Isc.call' (ch := []) hos (Un.kept hkp) (Isc.hok.kept hkp) hbare (fun b hb => by simp at hb)
  refine wpAny_pyIter_gen hgen' ?_
  refine wpAny_newObj_type (newEnv_comp ?_) (by show 0 ≤ sizeLine; decide)
  generalize hD : s1.heap.objs.size = D
  have hDn : w1.H D = none := I1.hok.fresh (Nat.le_of_eq hD)
  generalize hs3 : ({ s1 with heap := s1.heap.push { cls := .type "list", data := .seq ([] : List Value).toArray } } : Shared) = s3
  have I3 : Inv X pins σ (upd w1.H D (.lst [])) s3 := by
    rw [← hs3]
    refine I1.laid (t' := s1.toks) (fun b o e => Heap.get?_push_of_some _ e) (Nat.le_of_eq hD) ⟨Nat.zero_le _, [], 0, .nil, ?_⟩
    rw [← hD]
    exact Heap.get?_push_size _ rfl
  have h3 : s3.heap = s1.heap.push { cls := .type "list", data := .seq ([] : List Value).toArray } := by rw [← hs3]
  have sz3 : s3.heap.objs.size = D + 1 := by rw [h3, Heap.size_push, hD]
  have hlσ : σ.length = c.length := E1.len.symm
  have E2 := er_push E1 hDn
  have p12 := st_push E1 hDn
  have dom2 := E2.dom
  obtain ⟨w2, ew2⟩ : ∃ w2, w2 = wPush c.length D w1 := ⟨_, rfl⟩
  rw [← ew2] at E2 p12 dom2
  have eH2 : w2.H = upd w1.H D (.lst []) := by rw [ew2]; rfl
  rw [← eH2] at I3
  have fr1 : ∀ b, sc.heap.objs.size ≤ b → w1.H b = none := fun b hb => Isc.hok.fresh hb
  have fr2 : ∀ b, sc.heap.objs.size ≤ b → b ≠ D → w2.H b = none := fun b hb n => by rw [eH2, upd_ne n]; exact fr1 b hb
  have hDsz : sc.heap.objs.size ≤ D := by rw [← hD]; exact Nat.le_of_lt (Nat.lt_of_le_of_lt ha1 ha2)
  let fp : List Addr := (List.range D).filter fun b => decide (sc.heap.objs.size ≤ b)
  have infp : ∀ b, b ∈ fp ↔ b < D ∧ sc.heap.objs.size ≤ b := fun b => by simp [fp]
  have f3 : ∀ b ∈ fp, FpOk X pins w2.H b ∧ b < s3.heap.objs.size := fun b hb => by
    obtain ⟨q1, q2⟩ := (infp b).mp hb
    exact ⟨Isc.fpOk q2 (fr2 b q2 (Nat.ne_of_lt q1)), by rw [sz3]; exact Nat.lt_succ_of_lt q1⟩
  have I4 := block_start I3 ok hK.nd f3
  have frl : ∀ b ∈ frs X.stack, b < sc.heap.objs.size := fun b hb => by
    obtain ⟨_, o, ho, _⟩ := Isc.stack.mem hb
    exact Heap.lt_size ho
  have pg := hg s3 w2.H s3.heap.objs.size (cellsFrom (s3.heap.objs.size + 1) scope.names (cloFrom X.env.cells scope.names [])) fp
  have pe := he s3 w2.H s3.heap.objs.size (cellsFrom (s3.heap.objs.size + 1) scope.names (cloFrom X.env.cells scope.names [])) fp
  have cellsLt : ∀ x b, (compEnvC scope (cellsFrom (s3.heap.objs.size + 1) scope.names (cloFrom X.env.cells scope.names [])) s3.heap.objs.size X.env).cells.lookup x = some b → b < sc.heap.objs.size := fun x b e => by
    have hm : (x, b) ∈ cellsFrom (s3.heap.objs.size + 1) scope.names (cloFrom X.env.cells scope.names []) := PySem.mem_of_lookup e
    rw [← Heap.size_push s3.heap { cls := .type "dict", data := .dict #[] }] at hm
    rcases cells_mem hm with hm | ⟨hm, _⟩
    · rcases cloFrom_mem hm with hm | ⟨h1, rfl⟩
      · cases hm
      · obtain ⟨b, hb⟩ := hfree _ h1 rfl
        rw [hb]
        obtain ⟨v, o, ho, _⟩ := Isc.cell _ b hb
        exact Heap.lt_size ho
    · exact absurd rfl (hnc _ hm)
  show codeAny _ _ (.compStart (.ListComp (.Name y _) [⟨.Name y q2, iter, [], 0⟩] scope pos) 0 (.ref a) (.ref D) (compEnvC scope (cellsFrom (s3.heap.objs.size + 1) scope.names (cloFrom X.env.cells scope.names [])) s3.heap.objs.size X.env)) (compPost (model X.prog X.w) X.A X.xe none (EP X pins σ Q) (.ref D) s3.heap.objs.size) { s3 with heap := pushCells (s3.heap.push { cls := .type "dict", data := .dict #[] }) scope.names }
  generalize hce : compEnvC scope (cellsFrom (s3.heap.objs.size + 1) scope.names (cloFrom X.env.cells scope.names [])) s3.heap.objs.size X.env = ce at I4 pg pe cellsLt ⊢
  have cL : ce.locals = D + 1 := by subst hce; exact sz3
  generalize hs4 : ({ s3 with heap := pushCells (s3.heap.push { cls := .type "dict", data := .dict #[] }) scope.names } : Shared) = s4 at I4 ⊢
  have k14 : ∀ b o, s1.heap.get? b = some o → s4.heap.get? b = some o := fun b o e => by
    rw [← hs4]
    exact pushCells_keeps _ _ _ _ (Heap.get?_push_of_some _ (by rw [h3]; exact Heap.get?_push_of_some _ e))
  have g4 : s4.gens = s1.gens := by rw [← hs4, ← hs3]
  have o4 : s4.os = s1.os := by rw [← hs4, ← hs3]
  have YL : (X.blk s3 w2.H scope ce fp).env.locals = D + 1 := cL
  have off : ∀ b, sc.heap.objs.size ≤ b → ¬ (b = D + 1 ∨ b = D) → Off (X.blk s3 w2.H scope ce fp) [] b := fun b hb nt => by
    refine ⟨?_, fun z => nt (.inl (z.trans YL)), fun z => absurd (Nat.lt_of_lt_of_le (frl b z) hb) (Nat.lt_irrefl _), fun x c' e z => ?_, fun p hp => absurd (show p ∈ ([] : List (Addr × Obj)) ++ [] from hp) (by simp)⟩
    · rcases Nat.lt_or_ge b D with l | l
      · exact .inl ((infp b).mpr ⟨l, hb⟩)
      · refine .inr ?_
        show s3.heap.objs.size ≤ b
        rw [sz3]
        exact Nat.lt_of_le_of_ne l (fun z => nt (.inr z.symm))
    · have := cellsLt x c' e
      rw [z] at this
      exact absurd (Nat.lt_of_lt_of_le this hb) (Nat.lt_irrefl _)
  obtain ⟨m4, ⟨oC, es4, ep4, hoC, hdC, hrC⟩, _⟩ := id I4.loc
  rw [YL] at hoC
  let C : Nat → Shared → WD Γ → Prop := fun _ s₀ wd => ∃ oC Fc σi acc, wd.ep = [(D + 1, oC)] ∧ s₀.heap.get? (D + 1) = some oC ∧ wd.c = c ++ [.lst acc] ∧ Ask Γ (X.blk s3 w2.H scope ce fp) [] [] (σ ++ [some (.ref D)]) w2 sc.heap.objs.size wd.w.F σi (σ ++ [some (.ref D)]) ⟨wd.w.M, Fc, wd.w.H⟩ wd.c s₀
  have b4 : PyProof.Rows.AllBare (s4.setGen gi .running).gens := allBare_setGen I4.bare rfl
  have szs4 : sc.heap.objs.size ≤ s4.heap.objs.size := Nat.le_trans hDsz (Nat.le_trans (Nat.le_succ D) (Nat.le_of_lt (Heap.lt_size hoC)))
  have hC0 : C n (s4.setGen gi .running) ⟨⟨w2.M, fun _ _ => False, w2.H⟩, [(D + 1, oC)], c ++ [.lst []]⟩ :=
    ⟨oC, w2.F, _, [], rfl, hoC, rfl, Inv.gens I4 b4, E2, Step.refl _, Agree.refl, fun _ _ z => z.elim, fun _ _ _ _ z => z.elim, fun _ _ z => z.elim, szs4⟩
  have up12 : ∀ a u, w1.H a = some u → w2.H a = some u := fun a u e => by
    rw [eH2, upd_ne (fun z => by rw [z, hDn] at e; cases e)]; exact e
  have W0 : Wk0 X.prog X.w X.base X.stack w1.H sc s1 vs args ⟨⟨w2.M, fun _ _ => False, w2.H⟩, [(D + 1, oC)], c ++ [.lst []]⟩ (s4.setGen gi .running) := by
    refine ⟨up12, fun b h1 h2 => fr2 b h1 (fun z => by rw [z, ← hD] at h2; exact Nat.lt_irrefl _ h2), o4.trans hos, b4, I4.bs, I4.stack, I4.stkFree, I4.hok, k14, fun p hp => ?_, ?_⟩
    · rw [List.mem_singleton.mp hp]
      refine ⟨hoC, ?_, ?_, fun z => ?_, fun v z => ?_⟩
      · have z := I4.free
        rw [YL] at z; exact z
      · show s1.heap.objs.size ≤ D + 1
        rw [hD]; exact Nat.le_succ D
      · exact absurd (Nat.lt_of_lt_of_le (frl _ z) (Nat.le_trans hDsz (Nat.le_succ D))) (Nat.lt_irrefl _)
      · rw [hdC] at z; cases z
    · refine Ea.woke rfl (fun a u _ e => up12 a u e) (fun a n e m => ?_) (fun _ _ z => z.elim) dom2
      have m' : w2.M a := m
      rw [ew2] at m'
      rcases m' with m' | m'
      · exact n m'
      · rw [m'] at e; exact e hDn
  obtain ⟨g, go, eC, eyl, eKX, elt, exc, eP, ew, eb, eo, esz, epn, hgo, hpriv, seg⟩ := wake X.A.in1 C _ _ _ n (s4.setGen gi .running) ⟨⟨w2.M, fun _ _ => False, w2.H⟩, [(D + 1, oC)], c ++ [.lst []]⟩ args [] (fun p hp => absurd hp (by simp)) (fun i hi => by rw [hL0] at hi; exact absurd hi (by simp)) hr1.in1 hgd I1.ok.frames hgx hC0 W0
  obtain ⟨go', nm, qn, hgo', hgc, hgd', hgsl⟩ := hgen'
  rw [hgo] at hgo'
  cases hgo'
  have isg : ∀ h : Heap, h.get? a = some go → h.IsGen a gi := fun h e => ⟨go, nm, qn, e, hgc, hgd', hgsl⟩
  rw [esz] at off frl hDsz
  have hT : ∀ {wd : WD Γ} {Fc : Nat → Addr → Prop} {σi : St} {s₀ : Shared} {acc : List G.D} {oC : Obj}, wd.ep = [(D + 1, oC)] → s₀.heap.get? (D + 1) = some oC → wd.c = c ++ [.lst acc] → Ask Γ (X.blk s3 w2.H scope ce fp) [] [] (σ ++ [some (.ref D)]) w2 g.sz wd.w.F σi (σ ++ [some (.ref D)]) ⟨wd.w.M, Fc, wd.w.H⟩ wd.c s₀ →
      ∀ b, (b = D + 1 ∨ b = D) → (∃ o, (b, o) ∈ wd.ep ∧ s₀.heap.get? b = some o) ∨ (wd.w.H b ≠ none ∧ ∀ i, ¬ wd.w.F i b) := fun {wd Fc σi s₀ acc oC} e1 e2 e3 ask b hb => by
    rcases hb with rfl | rfl
    · exact .inl ⟨oC, by rw [e1]; exact List.mem_singleton.mpr rfl, e2⟩
    · have er := ask.er
      rw [e3] at er
      obtain ⟨q1, _, vs', q2, _⟩ := er_last er hlσ
      exact .inr ⟨by rw [show wd.w.H b = _ from q2]; simp, fun i f => ask.gdis _ i b q1 f⟩
  have loop : codeAny (model X.prog X.w) X.A (.compLoop (.ListComp (.Name y q1) [⟨.Name y q2, iter, [], 0⟩] scope pos) 0 (.ref a) (.ref D) ce) (compPost (model X.prog X.w) X.A X.xe none (EP X pins σ Q) (.ref D) s3.heap.objs.size) s4 := by
    refine compLoop_any (fun m s' => ∃ σ' H' gs, Inv (X.blk s3 w2.H scope ce fp) [] σ' H' s' ∧ s'.heap.IsGen a gi ∧ s'.gens[gi]? = some gs ∧ gs.Goes (model X.prog X.w) X.A.in1 (REq g (fun _ _ c' => ∃ acc : List G.D, c' = c ++ [Sl.lst acc] ∧ K (.lst acc) c) a gi) (GYq g) m (.send .none) (s'.setGen gi .running)) ?_ n
      ⟨_, _, .fresh code, I4, isg _ (k14 _ _ hgo), by rw [g4]; exact hgs, rfl, seg⟩
    rintro m s5 ⟨σ5, H5, gs, I5, hg5, hgs5, goes⟩
    have hgl : gi < s5.gens.size := (Array.getElem?_eq_some_iff.mp hgs5).1
    refine GenW.wpAny_gsz (n := gi + 1) hgl (next_genS (Y := GYq g) (I5.ok.hd hK.calm) I5.nolimit (by have := hr1.dp; omega) hg5 hgs5 goes (fun v s₁ gs' hba his hy => ?_) (fun s₁ hF h' hk' => ?_) fun e s₁ hee => ?_)
    · intro hsz
      obtain ⟨wd, ip, σg, wg, envg, d, x, kd, hC, G, rv, dx, hyl, hw⟩ := hy
      rw [eC] at hC
      rw [eyl] at hyl
      obtain ⟨oC1, Fc, σc, acc, hep, hoC1, hcc, ask⟩ := hC
      rw [esz] at ask
      obtain ⟨acc', hcc', hlen, hkd⟩ := hyl
      rw [hcc] at hcc'
      have ea : acc = acc' := by
        have := List.append_cancel_left hcc'
        simpa using this
      subst ea
      have ask1 := Ask.runs (X := X.blk s3 w2.H scope ce fp) (T := fun b => b = D + 1 ∨ b = D) dom2 eP ew eo off frl ask (hT hep hoC1 hcc ask) G
      rw [hcc] at ask1
      have er1 := ask1.er
      obtain ⟨qF, _, vsD, qH, qd⟩ := er_last er1 hlσ
      have hPT : ∀ b, Priv g ip b → ¬ (b = D + 1 ∨ b = D) := fun b p t => by
        rcases t with rfl | rfl
        · exact G.apart (D + 1, oC1) (by rw [hep]; exact List.mem_singleton.mpr rfl) p
        · have z := (G.priv b p).1
          rw [show wg.H b = _ from qH] at z; cases z
      obtain ⟨I6, E6, p6, pw6⟩ := ask1.turn off hPT G dom2
      have ba1 : PyProof.Rows.AllBare (s₁.setGen gi gs').gens := allBare_setGen ask1.inv.bare hba
      have hsz1 : gi < s₁.gens.size := by
        have q : (s₁.setGen gi gs').gens.size = s₁.gens.size := GenW.setGen_size _ _ _
        have hsz' : gi + 1 ≤ (s₁.setGen gi gs').gens.size := hsz
        omega
      have hga : s₁.heap.get? a = some go := (G.inv.pin (a, go) (List.mem_append_left _ (by show (a, go) ∈ g.pn; rw [epn]; exact List.mem_singleton.mpr rfl))).1
      refine go_of (s := s₁.setGen gi gs') hga hgc hgd' (by decide) ?_
      have dx' := dx.go (ask1.er.go p6)
      have iN : i < σc.length := by
        have := I6.len
        rw [this]
        exact (List.getElem?_eq_some_iff.mp hi).1
      -- the name
      refine wpAny_mono (wpAny_asleep (s := s₁.setGen gi gs') (pg.run [] (stuck (s₁.setGen gi gs')) σc _ x v (fun σ' H' => σ' = σc.set i (some x) ∧ H' = (wLay (Priv g ip) s₁.heap Fc wg).H) (Inv.stuck (Inv.gens I6 ba1)) rv ⟨rfl, rfl⟩)) (fun _ s6 ⟨s6p, am6, σ6, H6, I6p, e6⟩ => ?_) fun x' s' ⟨s1p, am, hx⟩ => False.elim hx
      obtain ⟨rfl, rfl⟩ := e6
      have I6' := Inv.amid I6p ba1 am6
      have g6 := am6.same (setGen_at hsz1) his
      refine wpAny_tests_nil ?_
      rw [if_pos rfl]
      -- the item
      refine wpAny_mono (wpAny_asleep (pe.run [] (stuck s6) (σc.set i (some x)) _ (fun x' H' => x' = x ∧ H' = (wLay (Priv g ip) s₁.heap Fc wg).H) (Inv.stuck I6') ⟨x, List.getElem?_set_self iN, rfl, rfl⟩)) (fun u s7 ⟨s7p, am7, x7, H7, I7p, r7, e7⟩ => ?_) fun x' s' ⟨s1p, am, hx⟩ => False.elim hx
      obtain ⟨rfl, rfl⟩ := e7
      have I7' := Inv.amid I7p I6'.bare am7
      have g7 := am7.same g6 his
      -- into the list
      have qH' : (wLay (Priv g ip) s₁.heap Fc wg).H D = some (.lst vsD) := lay_some (fun b p => (G.priv b p).1) qH
      have qd' := qd.go (er1.go p6)
      refine wpAny_mono (wpAny_asleep (app_ok (X := X.blk s3 w2.H scope ce fp) (Q := fun _ s' => Inv (X.blk s3 w2.H scope ce fp) [] (σc.set i (some x7)) (upd (wLay (Priv g ip) s₁.heap Fc wg).H D (.lst (vsD ++ [x7]))) s') (E := fun _ _ => False) (Inv.stuck I7') qH' (by rw [qd.length]; exact hlen) r7 fun s' I' => I')) (fun _ s8 ⟨s8p, am8, I8p⟩ => ?_) fun x' s' ⟨s1p, am, hx⟩ => False.elim hx
      have I8 := Inv.amid I8p I7'.bare am8
      have g8 := am8.same g7 his
      obtain ⟨E8, p8⟩ := er_app E6 hlσ qH' qd' dx'
      have b8 : PyProof.Rows.AllBare (s8.setGen gi .running).gens := allBare_setGen I8.bare rfl
      obtain ⟨m8, ⟨oC8, es8, ep8, ho8, hd8, hr8⟩, _⟩ := id I8.loc
      rw [YL] at ho8
      have fC8 := I8.free
      rw [YL] at fC8
      obtain ⟨askw, erw, stl, wkf⟩ := ask1.ready (T := fun b => b = D + 1 ∨ b = D) (ep' := [(D + 1, oC8)]) off hPT dom2 (fun b p => fr2 b (by rw [esz]; exact (G.priv b p).2.2) fun z => hPT b p (.inr z)) eP ew eb eo G G.er I8 E8 p8 Agree.refl b8 (fun p hp => by
        rw [List.mem_singleton.mp hp]
        exact ⟨ho8, fC8, fun z => hPT _ z (.inl rfl), fun z => absurd (Nat.lt_of_lt_of_le (frl _ z) (Nat.le_trans hDsz (Nat.le_succ D))) (Nat.lt_irrefl _), fun v z => by rw [hd8] at z; cases z⟩)
      have hga8 : s8.heap.get? a = some go := stl a go (.inr (.inr ⟨(a, go), List.mem_append_left _ (by rw [epn]; exact List.mem_singleton.mpr rfl), rfl⟩)) hga
      have hC8 : g.C (m - 1) (s8.setGen gi .running) ⟨wClr (Priv g ip) wg.F ⟨(wLay (Priv g ip) s₁.heap Fc wg).M, (wLay (Priv g ip) s₁.heap Fc wg).F, upd (wLay (Priv g ip) s₁.heap Fc wg).H D (.lst (vsD ++ [x7]))⟩, [(D + 1, oC8)], c ++ [.lst (acc ++ [d])]⟩ := by
        rw [eC]
        refine ⟨oC8, (wLay (Priv g ip) s₁.heap Fc wg).F, σc.set i (some x7), acc ++ [d], rfl, ho8, rfl, ?_⟩
        rw [esz]; exact askw
      have wok := hw (s8.setGen gi .running) _ envg hC8 hkd (wkf _ _ _ erw)
      cases m with
      | zero => exact wok.elim
      | succ m => exact ⟨m, Nat.lt_succ_self m, _, _, gs', I8, isg _ hga8, g8, wok⟩
    · intro _
      obtain ⟨wd, σg, wg, envg, hC, G, acc', hcc', hK'⟩ := hF
      rw [eC] at hC
      obtain ⟨oC1, Fc, σc, acc, hep, hoC1, hcc, ask⟩ := hC
      rw [esz] at ask
      rw [hcc] at hcc'
      have ea : acc = acc' := by
        have := List.append_cancel_left hcc'
        simpa using this
      subst ea
      have ask1 := Ask.runs (X := X.blk s3 w2.H scope ce fp) (T := fun b => b = D + 1 ∨ b = D) dom2 eP ew eo off frl ask (hT hep hoC1 hcc ask) G
      rw [hcc] at ask1
      have er1 := ask1.er
      obtain ⟨qF, _, vsD, qH, qd⟩ := er_last er1 hlσ
      have ba1 : PyProof.Rows.AllBare (s₁.setGen gi .finished).gens := allBare_setGen ask1.inv.bare rfl
      have I6 : Inv (X.blk s3 w2.H scope ce fp) [] σc wg.H { s₁.setGen gi .finished with heap := h' } := Inv.gens (Inv.kept (t' := s₁.toks) ask1.inv hk') ba1
      have I7 : Inv X pins σ wg.H { s₁.setGen gi .finished with heap := h' } := I3.call' (ch := fp) I6.os I6.base I6.hok I6.bare fun b hb => ⟨(f3 b hb).1.2.2.2.1, (f3 b hb).1.2.1, (f3 b hb).1.2.2.2.2.1, (f3 b hb).1.2.2.2.2.2⟩
      obtain ⟨m6, hn, _⟩ := id I6.loc
      have nC := I6.free
      rw [YL, ← sz3] at hn nC
      obtain ⟨f0, f1, f2, f3', f4, f5⟩ := I3.fpOk (Nat.le_refl _) nC
      refine ⟨m6, hn, fun h'' sb => ⟨.ref D, wg.H, I7.turned (t' := s₁.toks) (fun b o hb e => (sb.2 b hb).trans e) f0 f1 f3' f4 f5, rfl, ?_⟩⟩
      have st := p12.trans ask1.st E1.dom
      refine kk (.lst acc) c (.ref D) (wDrop c.length ⟨wg.M, Fc, wg.H⟩) (fun a => a = D) hK' (er_drop er1 hlσ) ⟨⟨D, vsD, rfl, qH, qd, fun _ => Iff.rfl⟩, fun a z => by subst z; exact er1.sub _ _ qF, fun a i z f => by subst z; exact absurd (er1.dis i _ _ f.2 qF) (Nat.ne_of_lt f.1)⟩
        (p1.trans ⟨st.keep, st.mu, st.src, fun i a f => st.own i a f.2, st.live⟩ E.dom) fun a z => .inr ?_
      subst z
      cases q : w.H a with
      | none => rfl
      | some u => exact absurd hDn (p1.live a (by rw [q]; simp))
    · obtain ⟨n0, s₀, wd, hC, hcx, hig⟩ := hee
      obtain ⟨a', B, H', cls, d, _, _, _, _, _, _, _, hE⟩ := id hcx
      obtain ⟨x, dx, w', σ', env', hx, _⟩ := hE
      rw [eKX] at hx
      exact False.elim hx
  exact codeAny_compStart_list loop (wpAny_pyIter_gen (isg _ (k14 _ _ hgo)) loop)
end
end G

set_option maxHeartbeats 4000000
namespace G
open PySem L2 Asl
section
variable {P : Program} {w : World} {A : Around} {E : Value → Shared → Prop} {s : Shared}
end
end G

set_option maxHeartbeats 4000000
namespace G
open PySem L2 Asl
section
variable {prog : Program} {w : World} {A : Around} {E : Value → Shared → Prop} {s : Shared}
end
section
variable {Γ : Gam} {X : Cx} {A : List Nat} {xc : Nat → Addr} {W : WX}
end
end G

set_option maxHeartbeats 4000000
namespace G
open PySem L2
section
variable {Γ : Gam} {X : Cx} {xc : Nat → Addr} {W : WX} {σ : St} {a : Expr} {pos : Pos}
variable {xa : XA Γ} {x : Str} {npos : Pos}
end
end G

set_option maxHeartbeats 4000000
namespace G
open PySem L2
section
variable {Γ : Gam} {M : Addr → Prop} {H : Hp} {F1 F2 : Nat → Addr → Prop} {σ1 σ2 : St} {e1 e2 : Env Γ}
def fOut (i : Nat) (F : Nat → Addr → Prop) : Nat → Addr → Prop := fun k a => k ≠ i ∧ F k a
def fIn (j : Nat) (Fr : Addr → Prop) (F : Nat → Addr → Prop) : Nat → Addr → Prop := fun k a => if k = j then Fr a else F k a
/-- two frames over one heap: slot i of the first gives what it owns to slot j of the second -/
theorem er_give {i j : Nat} {s : Sl Γ} {v : V} (E1 : ER Γ ⟨M, F1, H⟩ σ1 e1) (E2 : ER Γ ⟨M, F2, H⟩ σ2 e2) (dis : ∀ k l a, F1 k a → ¬ F2 l a) (h1 : e1[i]? = some s) (hs : s ≠ .none) (v1 : σ1[i]? = some (some v)) (h2 : e2[j]? = some .none) (v2 : σ2[j]? = some (some v)) :
    ER Γ ⟨M, fOut i F1, H⟩ σ1 (e1.set i .none) ∧ ER Γ ⟨M, fIn j (F1 i) F2, H⟩ σ2 (e2.set j s) ∧ ∀ k l a, fOut i F1 k a → ¬ fIn j (F1 i) F2 l a := by
  have li : i < e1.length := (List.getElem?_eq_some_iff.mp h1).1
  have lj : j < e2.length := (List.getElem?_eq_some_iff.mp h2).1
  have rs : SR Γ M H v s (F1 i) := by
    rcases E1.slot i s h1 with ⟨z, _⟩ | ⟨u, eu, r⟩
    · exact (hs z).elim
    · rw [v1] at eu; cases eu; exact r
  refine ⟨⟨by rw [List.length_set]; exact E1.len, fun k t e => ?_, fun k a f => E1.sub k a f.2, fun k l a f f' => E1.dis k l a f.2 f'.2, E1.dom, fun k hk a f => E1.out k (by rw [List.length_set] at hk; exact hk) a f.2⟩,
    ⟨by rw [List.length_set]; exact E2.len, fun k t e => ?_, fun k a f => ?_, fun k l a f f' => ?_, E2.dom, fun k hk a f => ?_⟩, fun k l a f f' => ?_⟩
  · by_cases q : k = i
    · subst q
      rw [List.getElem?_set_self li] at e
      cases e
      exact .inl ⟨rfl, fun a f => f.1 rfl⟩
    · rw [List.getElem?_set_ne (Ne.symm q)] at e
      have hF : fOut i F1 k = F1 k := funext fun a => propext ⟨fun z => z.2, fun z => ⟨q, z⟩⟩
      show (t = .none ∧ ∀ a, ¬ fOut i F1 k a) ∨ ∃ u, σ1[k]? = some (some u) ∧ SR Γ M H u t (fOut i F1 k)
      rw [hF]
      exact E1.slot k t e
  · by_cases q : k = j
    · subst q
      rw [List.getElem?_set_self lj] at e
      cases e
      refine .inr ⟨v, v2, ?_⟩
      have hF : fIn k (F1 i) F2 k = F1 i := funext fun a => if_pos rfl
      show SR Γ M H v s (fIn k (F1 i) F2 k)
      rw [hF]; exact rs
    · rw [List.getElem?_set_ne (Ne.symm q)] at e
      have hF : fIn j (F1 i) F2 k = F2 k := funext fun a => if_neg q
      show (t = .none ∧ ∀ a, ¬ fIn j (F1 i) F2 k a) ∨ ∃ u, σ2[k]? = some (some u) ∧ SR Γ M H u t (fIn j (F1 i) F2 k)
      rw [hF]
      exact E2.slot k t e
  · have f' : (if k = j then F1 i a else F2 k a) := f
    split at f'
    · exact E1.sub i a f'
    · exact E2.sub k a f'
  · have g : (if k = j then F1 i a else F2 k a) := f
    have g' : (if l = j then F1 i a else F2 l a) := f'
    split at g <;> split at g'
    · omega
    · exact (dis i l a g g').elim
    · exact (dis i k a g' g).elim
    · exact E2.dis k l a g g'
  · have f' : (if k = j then F1 i a else F2 k a) := f
    rw [List.length_set] at hk
    rw [if_neg (by omega)] at f'
    exact E2.out k hk a f'
  · have g' : (if l = j then F1 i a else F2 l a) := f'
    split at g'
    · exact f.1 (E1.dis k i a f.2 g')
    · exact dis k l a f.2 g'
end
section
variable {Γ : Gam} {g : GP Γ} {A : List Nat}
end
end G

set_option maxHeartbeats 4000000
namespace G
open PySem L2 Asl
theorem Agree.mono {A B : List Nat} {σ σ' : St} (h : Agree B σ σ') (s : ∀ i ∈ B, i ∈ A) : Agree A σ σ' := ⟨h.len, fun i n => h.get i fun z => n (s i z)⟩
section
variable {Γ : Gam} {X : Cx} {pins : List (Addr × Obj)} {A B : List Nat} {σ1 σ σi : St} {w1 : Wd} {xc : Nat → Addr} {W : WX}
/-- the asker's slot j goes to the generator's slot 0 -/
theorem Ask.take {sz j : Nat} {M : Addr → Prop} {H : Hp} {F Fg : Nat → Addr → Prop} {s : Shared} {c e : Env Γ} {s' : Sl Γ} {v : V} {σg : St} (h : Ask Γ X pins A σ1 w1 sz Fg σi σ ⟨M, F, H⟩ c s) (erg : ER Γ ⟨M, Fg, H⟩ σg e) (h1 : c[j]? = some s') (hs : s' ≠ .none) (v1 : σ[j]? = some (some v)) (h2 : e[0]? = some .none) (v2 : σg[0]? = some (some v)) :
    ER Γ ⟨M, fIn 0 (F j) Fg, H⟩ σg (e.set 0 s') ∧ Ask Γ X pins A σ1 w1 sz (fIn 0 (F j) Fg) σi σ ⟨M, fOut j F, H⟩ (c.set j .none) s := by
  obtain ⟨q1, q2, q3⟩ := er_give h.er erg h.gdis h1 hs v1 h2 v2
  refine ⟨q2, h.inv, q1, ⟨h.st.keep, h.st.mu, h.st.src, fun i a f => h.st.own i a f.2, h.st.live⟩, h.ag, fun i a f => q2.sub i a f, q3, fun i a f => ?_, h.size⟩
  have f' : (if i = 0 then F j a else Fg i a) := f
  split at f'
  · exact (h.st.own j a f').symm
  · exact h.gnew i a f'
end
end G

set_option maxHeartbeats 4000000
namespace G
open PySem L2 Asl
section
variable {Γ : Gam} {X : Cx} {A B : List Nat} {xc : Nat → Addr} {W : WX}
end
end G

set_option maxHeartbeats 4000000
namespace G
open PySem L2 Asl
section
variable {Γ : Gam} {X : Cx} {xc : Nat → Addr} {W : WX}
end
end G

set_option maxHeartbeats 4000000
namespace G
open PySem L2 Asl
theorem gp_takes {Γ : Gam} (g : GP Γ) (s₀ : Shared) (wd : WD Γ) : Takes (g.cx s₀ wd) (gW g wd) := fun u s' x =>
  XE.leaveG (X := g.cx s₀ wd) (W := gW g wd) (E := g.E wd) rfl rfl rfl (fun _ _ _ _ h => h) x
section
variable {Γ : Gam} {X : Cx} {xc : Nat → Addr} {W : WX}
end
end G

set_option maxHeartbeats 4000000
namespace G
open PySem L2
section
variable {Γ : Gam}
variable {g : GP Γ} {A : List Nat}
end
end G

set_option maxHeartbeats 4000000
namespace G
open PySem L2
section
variable {Γ : Gam} {X : Cx} {xc : Nat → Addr} {W : WX} {A : List Nat} {fld nm x1 : Str} {c ie : Nat} {body : List Stmt} {q : Qs Γ} {fe : Ev Γ} {e1 : Expr} {t1 : TE}
end
end G

set_option maxHeartbeats 4000000
namespace G
open PySem L2
section
variable {Γ : Gam} {X : Cx} {a b : Expr} {f h : Ev Γ} {p p1 pos : Pos}
end
section
variable {Γ : Gam} {X : Cx} {xc : Nat → Addr} {W : WX} {σ : St} {e : Expr} {es : List Expr} {as : List (XA Γ)} {pos : Pos}
end
end G

set_option maxHeartbeats 4000000
namespace Skx
open PySem PySem.Calls PyProof.Rows PySem.W
def KF (fs : List Addr) (h h' : Heap) : Prop := ∀ b o, h.get? b = some o → (b ∉ fs → h'.get? b = some o) ∧ ∃ sl, h'.get? b = some { o with slots := sl }
def KB (fs : List Addr) (a : Addr) (h h' : Heap) : Prop := ∀ b o, b ≠ a → h.get? b = some o → (b ∉ fs → h'.get? b = some o) ∧ ∃ sl, h'.get? b = some { o with slots := sl }
theorem KF.trans {fs : List Addr} {h h1 h2 : Heap} (k : KF fs h h1) (k' : KF fs h1 h2) : KF fs h h2 := fun b o e => by
  obtain ⟨i1, sl, i2⟩ := k b o e
  obtain ⟨_, sl', j2⟩ := k' _ _ i2
  exact ⟨fun hb => (k' b o (i1 hb)).1 hb, sl', j2⟩
theorem KB.trans {fs : List Addr} {a : Addr} {h h1 h2 : Heap} (k : KB fs a h h1) (k' : KF fs h1 h2) : KB fs a h h2 := fun b o hb e => by
  obtain ⟨i1, sl, i2⟩ := k b o hb e
  obtain ⟨_, sl', j2⟩ := k' _ _ i2
  exact ⟨fun hb => (k' b o (i1 hb)).1 hb, sl', j2⟩
theorem KB.same {fs : List Addr} {a c : Addr} {h h1 h2 : Heap} (k : KB fs a h h1) (hs : ∀ b o, b ≠ c → h1.get? b = some o → b ≠ a → h2.get? b = some o) (hc : c = a ∨ h.get? c = none) : KB fs a h h2 := fun b o hb e => by
  have hbc : b ≠ c := by
    rintro rfl
    rcases hc with rfl | hc
    · exact hb rfl
    · rw [hc] at e
      cases e
  obtain ⟨i1, sl, i2⟩ := k b o hb e
  exact ⟨fun z => hs b o hbc (i1 z) hb, sl, hs b _ hbc i2 hb⟩
mutual
theorem readsF {h h' : Heap} (hk : ∀ b o, h.get? b = some o → ∃ sl, h'.get? b = some { o with slots := sl }) : ∀ {v : Value} {d : PyData} {as : List Addr}, Reads h v d as → Reads h' v d as
  | _, _, _, .none => .none
  | _, _, _, .bool b => .bool b
  | _, _, _, .int i t => .int i t
  | _, _, _, .str x t => .str x t
  | _, _, _, .list h1 h2 h3 h4 => let ⟨_, q⟩ := hk _ _ h1; .list q h2 h3 (readsAllF hk h4)
  | _, _, _, .tuple h1 h2 h3 h4 => let ⟨_, q⟩ := hk _ _ h1; .tuple q h2 h3 (readsAllF hk h4)
  | _, _, _, .dict h1 h2 h3 h4 h5 => let ⟨_, q⟩ := hk _ _ h1; .dict q h2 h3 (readsAllF hk h4) (readsAllF hk h5)
theorem readsAllF {h h' : Heap} (hk : ∀ b o, h.get? b = some o → ∃ sl, h'.get? b = some { o with slots := sl }) : ∀ {vs : List Value} {ds : List PyData} {as : List Addr}, ReadsAll h vs ds as → ReadsAll h' vs ds as
  | _, _, _, .nil => .nil
  | _, _, _, .cons h1 h2 => .cons (readsF hk h1) (readsAllF hk h2)
end
section
variable {prog : Program} {w : World} {A : Around} {E : Value → Shared → Prop} {s : Shared} {a kS : Addr} {b : Bool} {vs : List Value} {e1 : Nat} {P : PySem.Fin → Shared → Prop} {kz : List PyData} {fs : List Addr}
/-- behind a call of f -/
def KeyG (fs : List Addr) (k : PyData) (s₁ : Shared) (v : Value) (s₂ : Shared) : Prop := s₂.os = s₁.os ∧ PyProof.Rows.AllBare s₂.gens ∧ KF fs s₁.heap s₂.heap ∧ Reads s₂.heap v k []
theorem keyG_rest {f : Value} {h₁ : Heap} (hg : PyProof.Rows.AllBare s.gens) (kp : KB fs a h₁ s.heap) (hkS : h₁.get? kS = none) (nk : s.heap.get? kS = some (seqObj "list" #[] 0)) (na : s.heap.get? a = some (seqObj "list" #[] e1)) (hka : kS ≠ a) (fk : kS ∉ fs) (fa : a ∉ fs)
    (hlen : kz.length = vs.length) (hZ : vs.length ≤ sizeLine) (hal : AllAlike kz) (hsk : Sortable kz) (hu : ∀ d, d ∈ kz → A.units + d.depth < cLine)
    (turn : ∀ (i : Nat) (v : Value) (k : PyData), vs[i]? = some v → kz[i]? = some k → ∀ s₁ : Shared, s₁.os = s.os → PyProof.Rows.AllBare s₁.gens → KB fs a h₁ s₁.heap →
      wpAny (model prog w) A (call f [v]) (KeyG fs k s₁) (fun _ _ => False) s₁)
    (h : ∀ (s' : Shared) out c, s'.os = s.os → PyProof.Rows.AllBare s'.gens → KB fs a h₁ s'.heap → s'.heap.get? a = some (seqObj "list" (List.toArray out) c) → KeyedOut b kz vs out → P (.done (.ret .none)) s') :
    wpAny (model prog w) A (ksk_rest a f b vs.toArray e1 (.ref kS)) P E s := by
  unfold ksk_rest
  refine wpAny_bind (wpAny_rule ?_)
  first
    | rw [List.forIn_toArray]
    | (rw [← Array.forIn_toList]; simp only [List.toList_toArray])
    | rw [← Array.forIn_toList]
  refine wpAny_bind (ksk_fold (fun i s' => ∃ kA e, s'.os = s.os ∧ PyProof.Rows.AllBare s'.gens ∧ KB fs a h₁ s'.heap ∧ s'.heap.get? kS = some (seqObj "list" kA e) ∧ s'.heap.get? a = some (seqObj "list" #[] e1) ∧ EachIs (fun v k => Reads s'.heap v k [] ∧ alike k k = true) kA.toList (kz.take i)) vs 0 s
    ⟨#[], 0, rfl, hg, kp, nk, na, by rw [List.take_zero]; exact EachIs.nil⟩ ?step ?done)
  case step =>
    rintro j x s' hx ⟨kA, e, os', hg', kp', nk', na', hk⟩
    simp only [Nat.zero_add] at hk ⊢
    have hj : j < vs.length := (List.getElem?_eq_some_iff.mp hx).1
    obtain ⟨k, hkj⟩ : ∃ k, kz[j]? = some k := ⟨_, List.getElem?_eq_getElem (by omega)⟩
    have hkk : alike k k = true := hal k (List.mem_of_getElem? hkj) k (List.mem_of_getElem? hkj)
    have hz : kA.size ≤ vs.length := by
      have h1 := hk.length
      rw [Array.length_toList, List.length_take] at h1
      omega
    refine wpAny_bind (wpAny_attempt (wpAny_mono (turn j x k hx hkj s' os' hg' kp') (fun v s'' he => ?_) fun _ _ hF => hF.elim))
    obtain ⟨os2, hg2, kf, hr⟩ := he
    try dsimp only
    have nk2 : s''.heap.get? kS = some (seqObj "list" kA e) := (kf _ _ nk').1 fk
    have na2 : s''.heap.get? a = some (seqObj "list" #[] e1) := (kf _ _ na').1 fa
    have s1 := Heap.SameBut.update s''.heap kS (Obj.mapSeq (·.push v))
    obtain ⟨c2, hc2⟩ : ∃ c2, (s''.heap.update kS (Obj.mapSeq (·.push v))).get? kS = some (seqObj "list" (kA.push v) c2) := ⟨_, get?_update_seq nk2 (·.push v)⟩
    have ek : kz.take (j + 1) = kz.take j ++ [k] := by rw [List.take_add_one, hkj]; simp
    have ea : (kA.push v).toList = kA.toList ++ [v] := by simp
    refine wpAny_bind (listUpdate_at nk2 rfl ?_ (Nat.le_trans hz hZ) (Nat.le_trans (Nat.le_of_eq (Array.size_push ..)) (Nat.succ_le_succ (Nat.le_trans hz hZ))))
    have keepS : ∀ (u : Value) (d : PyData), Reads s''.heap u d [] ∧ alike d d = true → Reads (s''.heap.update kS (Obj.mapSeq (·.push v))) u d [] ∧ alike d d = true := fun u d q =>
      ⟨Reads.keepBut (a := kS) (fun b o hb e => (s1.2 b hb).trans e) (fun o e => by rw [nk2] at e; rw [← Option.some.inj e]) d u [] q.2 q.1 (by simp), q.2⟩
    refine wpAny_pure ⟨rfl, kA.push v, c2, os2.trans os', hg2, (kp'.trans kf).same (c := kS) (fun b o hb e _ => (s1.2 b hb).trans e) (.inr hkS), hc2, (s1.2 a hka.symm).trans na2, ?_⟩
    rw [ea, ek]
    refine each_snoc (R := fun (u : Value) (d : PyData) => Reads (s''.heap.update kS (Obj.mapSeq (·.push v))) u d [] ∧ alike d d = true) (keepS v k ⟨hr, hkk⟩) ?_
    exact hk.mono fun u d q => keepS u d ⟨readsF (fun b o e => (kf b o e).2) q.1, q.2⟩
  case done =>
    rintro s' ⟨kA, e, os', hg', kp', nk', na', hk⟩
    have hk' : EachIs (fun v k => ∃ as, Reads s'.heap v k as) kA.toList kz := by
      have e3 : kz.take (0 + vs.length) = kz := List.take_of_length_le (by omega)
      rw [e3] at hk
      exact hk.mono fun v k q => ⟨[], q.1⟩
    have hsz : kA.size = vs.length := by
      have h1 := hk'.length
      rw [Array.length_toList] at h1
      omega
    try dsimp only
    refine wpAny_bind (listItems_at nk' rfl ?_)
    obtain ⟨G, g1, g2⟩ := L2.restrict s'.heap fun b => decide (b ≠ kS)
    refine keyH_end (κ := dataKind s'.heap kz) (h₁ := G) (fun b o hb q => ?_) (g2 kS (decide_eq_false fun z => z rfl)) nk' na' hka (SortsAt.data (s := s') hk' hal hsk hu) hsz hZ fun h3 tk3 c k3 n3 => ?_
    · by_cases hc : b = kS
      · rw [hc, g2 kS (decide_eq_false fun z => z rfl)] at q
        cases q
      · rw [g1 b (decide_eq_true hc)] at q
        exact q
    · refine h { s' with heap := h3, toks := tk3 } _ c os' hg' (kp'.same (c := kS) (fun b o hb q ha => k3 b o ha (by rw [g1 b (decide_eq_true hb)]; exact q)) (.inr hkS)) n3 ⟨s'.heap, kA.toList, hal, rfl, hk'⟩
theorem keyG_tree {f : Value} {n : Nat} (hg : PyProof.Rows.AllBare s.gens) (fr : ∀ c ∈ fs, c < a ∧ c < s.heap.objs.size) (ho : s.heap.get? a = some (seqObj "list" vs.toArray n)) (hlen : kz.length = vs.length) (hZ : vs.length ≤ sizeLine) (hal : AllAlike kz) (hsk : Sortable kz) (hu : ∀ d, d ∈ kz → A.units + d.depth < cLine)
    (turn : ∀ (i : Nat) (v : Value) (k : PyData), vs[i]? = some v → kz[i]? = some k → ∀ s₁ : Shared, s₁.os = s.os → PyProof.Rows.AllBare s₁.gens → KB fs a s.heap s₁.heap →
      wpAny (model prog w) A (call f [v]) (KeyG fs k s₁) (fun _ _ => False) s₁)
    (h : ∀ (s' : Shared) out c, s'.os = s.os → PyProof.Rows.AllBare s'.gens → KB fs a s.heap s'.heap → s'.heap.get? a = some (seqObj "list" (List.toArray out) c) → KeyedOut b kz vs out → P (.done (.ret .none)) s') :
    wpAny (model prog w) A (ksk_tree a f b) P E s := by
  have ha : a < s.heap.objs.size := Heap.lt_size ho
  obtain ⟨e1, ho1⟩ : ∃ e1, (s.heap.update a (Obj.mapSeq fun _ => (#[] : Array Value))).get? a = some (seqObj "list" #[] e1) := ⟨_, get?_update_seq ho fun _ => #[]⟩
  have hkS : ((s.heap.update a (Obj.mapSeq fun _ => (#[] : Array Value))).push (seqObj "tuple" vs.toArray 0)).objs.size = s.heap.objs.size + 1 := by rw [size_push', Heap.size_update]
  unfold ksk_tree
  refine wpAny_bind (listItems_at ho rfl ?_)
  refine wpAny_bind (listUpdate_at ho rfl ?_ (by rw [List.size_toArray]; exact hZ) (Nat.zero_le _))
  refine wpAny_bind (seqEpoch_at ho1 rfl ?_)
  refine wpAny_bind (wpAny_newTuple ?_ (by show vs.length ≤ _; exact hZ))
  refine wpAny_bind (wpAny_newList ?_ (Nat.zero_le _))
  refine wpAny_holding ?_
  have kp : KB fs a s.heap (sortingHeap s.heap a vs) := fun b o hb q => ⟨fun _ => sortingHeap_old hb q, o.slots, sortingHeap_old hb q⟩
  refine keyG_rest (kz := kz) (h₁ := s.heap) (s := { s with heap := ((s.heap.update a (Obj.mapSeq fun _ => (#[] : Array Value))).push (seqObj "tuple" vs.toArray 0)).push (seqObj "list" #[] 0) }) (kS := ((s.heap.update a (Obj.mapSeq fun _ => (#[] : Array Value))).push (seqObj "tuple" vs.toArray 0)).objs.size)
    hg kp (Heap.get?_none_of_le (by rw [hkS]; exact Nat.le_succ _)) (Heap.get?_push_size _ rfl) (Heap.get?_push_of_some _ (Heap.get?_push_of_some _ ho1)) (by rw [hkS]; exact Nat.ne_of_gt (Nat.lt_succ_of_lt ha)) (fun z => by have q := (fr _ z).2; rw [hkS] at q; exact absurd q (Nat.not_lt.mpr (Nat.le_succ _))) (fun z => Nat.lt_irrefl _ (fr _ z).1) hlen hZ hal hsk hu turn h
end
section
variable {prog : Program} {w : World} {A : Around} {E : Value → Shared → Prop} {s : Shared} {β : Type} {vs : List Value} {bs : List β} {R : Value → β → Prop} {fs : List Addr}
/-- sorted(xs, key=f) -/
theorem sorted_keyG {l : Addr} {f : Value} {kw : List (Str × Value)} {b : Bool} {Q : Value → Shared → Prop} (k : β → PyData) (hg : PyProof.Rows.AllBare s.gens) (fr : ∀ c ∈ fs, c < s.heap.objs.size) (hl : s.heap.IsList l vs.toArray) (e : EachIs R vs bs) (hal : AllAlike (bs.map k)) (hk : Sortable (bs.map k)) (hL : bs.length ≤ sizeLine)
    (hu : ∀ x, x ∈ bs → A.units + 2 + (k x).depth < cLine) (ha1 : argsOk "sorted" ⟨[.ref l], kw⟩) (ha2 : ∀ x, argsOk "list.sort" ⟨[.ref x], kw⟩) (ht : ∀ x, Builtin.«list.sort» ⟨[.ref x], kw⟩ = ksk_tree x f b)
    (turn : ∀ (v : Value) (x : β), R v x → x ∈ bs → ∀ s₁ : Shared, s₁.os = s.os → PyProof.Rows.AllBare s₁.gens → KF fs s.heap s₁.heap →
      wpAny (model prog w) A.in1.in1 (call f [v]) (KeyG fs (k x) s₁) (fun _ _ => False) s₁)
    (h : ∀ (s' : Shared) out c, s'.os = s.os → PyProof.Rows.AllBare s'.gens → KF fs s.heap s'.heap → s'.heap.get? (s.heap.objs.size + 1) = some (seqObj "list" (List.toArray out) c) → out.length = bs.length → EachIs R out (bs.mergeSort (dataLe b k)) →
      Q (.ref (s.heap.objs.size + 1)) s') :
    wpAny (model prog w) A (call (.builtin "sorted") [.ref l] kw) Q E s := by
  have up : ∀ {g : Heap}, KB fs (s.heap.objs.size + 1) (copyHeap s.heap vs) g → KF fs s.heap g := fun {g} kp b o q =>
    kp b o (Nat.ne_of_lt (Nat.lt_succ_of_lt (Heap.lt_size q))) (copyHeap_old q)
  refine sorted_of_sort hl (by rw [e.length]; exact hL) ha1 ha2 fun E' => ?_
  rw [ht]
  refine keyG_tree (kz := bs.map k) (fs := fs) (s := { s with heap := copyHeap s.heap vs }) hg (fun c hc => ⟨Nat.lt_succ_of_lt (fr c hc), Nat.lt_trans (fr c hc) (Nat.lt_trans (Nat.lt_succ_self _) (Heap.lt_size (copyHeap_at s.heap vs)))⟩) (copyHeap_at s.heap vs) (by rw [List.length_map]; exact e.length.symm) (by rw [e.length]; exact hL) hal hk (bound_map (A := A.in1.in1) hu)
    ?_ fun s' out c os' hg' kp hD ko => ⟨rfl, ?_⟩
  · intro i v d hv hd s₁ o1 g1 kp
    rw [List.getElem?_map] at hd
    cases q : bs[i]? with
    | none => rw [q] at hd; simp at hd
    | some x =>
      rw [q] at hd
      have hd' : some (k x) = some d := hd
      rw [← Option.some.inj hd']
      have hz : (v, x) ∈ vs.zip bs := List.mem_of_getElem? (i := i) (by rw [List.getElem?_zip_eq_some]; exact ⟨hv, q⟩)
      exact turn v x (e.zip _ hz) (List.mem_of_getElem? q) s₁ o1 g1 (up kp)
  · exact h s' out c os' hg' (up kp) hD ((ko.length (by rw [List.length_map]; exact e.length.symm)).trans e.length) (keyedOut_each k ko e)
end
end Skx

set_option maxHeartbeats 4000000
namespace G
open PySem L2 PySem.Spec
mutual
/-- data in which no list stands -/
def flk : D → Bool
  | .non => true
  | .bl _ => true
  | .int _ => true
  | .str _ => true
  | .tup ds => flks ds
  | _ => false
def flks : List D → Bool
  | [] => true
  | d :: ds => flk d && flks ds
end
def keyO {Γ : Gam} (g : Fn Γ) (d : D) : Option D := match g [.dat d] with
  | some (.dat k, _) => some k
  | _ => none
def keyK {Γ : Gam} (g : Fn Γ) (d : D) : D := (keyO g d).getD .non
def pSortK {Γ : Gam} (g : Fn Γ) (x : Sl Γ) : Option (Sl Γ) :=
  match x.view with
  | some (.lst ds) => if (ds.all fun d => flk d && (keyO g d).isSome && flk (keyK g d)) = true ∧ okSort (ds.map (keyK g)) = true then some (.lst (ds.mergeSort fun a b => leD (keyK g a) (keyK g b))) else none
  | _ => none
/-- the tuples alone, as they stand -/
def H0 (H : Hp) (h : Heap) : Hp := fun b => match H b with
  | some (.tup xs) => (h.get? b).map fun o => .frz o (.tup xs)
  | some (.frz o (.tup xs)) => some (.frz o (.tup xs))
  | _ => none
theorem h0_some {H : Hp} {h : Heap} {b : Addr} {u : HO} (e : H0 H h b = some u) : ∃ o xs, u = .frz o (.tup xs) ∧ ((H b = some (.tup xs) ∧ h.get? b = some o) ∨ H b = some (.frz o (.tup xs))) := by
  unfold H0 at e
  cases q : H b with
  | none => rw [q] at e; cases e
  | some v =>
    rw [q] at e
    cases v with
    | tup xs =>
      cases ho : h.get? b with
      | none => rw [ho] at e; cases e
      | some o => rw [ho] at e; exact ⟨o, xs, (Option.some.inj e).symm, .inl ⟨rfl, rfl⟩⟩
    | frz o v =>
      cases v with
      | tup xs => exact ⟨o, xs, (Option.some.inj e).symm, .inr rfl⟩
      | _ => cases e
    | _ => cases e
theorem h0_rd {P : Program} {w : World} {H : Hp} {h : Heap} {b : Addr} {xs : List V} (ok : HOk P w H h) (e : Rd H b (.tup xs)) : Rd (H0 H h) b (.tup xs) := by
  rcases e with e | ⟨o, e⟩
  · obtain ⟨_, _, _, o, ho, _⟩ := (show ObjOk P w H h b (.tup xs) from ok b _ e)
    exact .inr ⟨o, by unfold H0; rw [e]; show Option.map _ (h.get? b) = _; rw [ho]; rfl⟩
  · exact .inr ⟨o, by unfold H0; rw [e]⟩
theorem h0_none {H : Hp} {h : Heap} {b : Addr} (e : H b = none) : H0 H h b = none := by unfold H0; rw [e]
mutual
theorem dat_h0 {Γ : Gam} {P : Program} {w : World} {M : Addr → Prop} {H : Hp} {h : Heap} (ok : HOk P w H h) : ∀ {v : V} {d : D}, Dat Γ M H v d → flk d = true → Dat Γ (fun _ => False) (H0 H h) v d
  | _, _, .non, _ => .non
  | _, _, .bl b, _ => .bl b
  | _, _, .int i, _ => .int i
  | _, _, .str x, _ => .str x
  | _, _, .tup t r, f => .tup (by
      rcases t with t | t
      · exact .inl ⟨fun z => z, h0_rd ok t.2⟩
      · exact .inr t) (dats_h0 ok r (by simpa only [flk] using f))
  | _, _, .lst _ _ _, f => by simp [flk] at f
  | _, _, .ins _ _ _ _ _, f => by simp [flk] at f
  | _, _, .odd _ _, f => by simp [flk] at f
  | _, _, .dic _ _ _ _, f => by simp [flk] at f
  | _, _, .cls _, f => by simp [flk] at f
  | _, _, .val _, f => by simp [flk] at f
  | _, _, .raw _, f => by simp [flk] at f
theorem dats_h0 {Γ : Gam} {P : Program} {w : World} {M : Addr → Prop} {H : Hp} {h : Heap} (ok : HOk P w H h) : ∀ {vs : List V} {ds : List D}, Dats Γ M H vs ds → flks ds = true → Dats Γ (fun _ => False) (H0 H h) vs ds
  | _, _, .nil, _ => .nil
  | _, _, .cons a r, f => by
    rw [flks, Bool.and_eq_true] at f
    exact .cons (dat_h0 ok a f.1) (dats_h0 ok r f.2)
end
theorem sqT_at {P : Program} {w : World} {K : PySem.W.Frag} {H : Hp} {h : Heap} {a : Addr} {vs : List V} (ok : HOk P w H h) (kin : K.In h) (q : SqT K H a vs) : ∃ (o : Obj) (its : Array Value) (n : Nat), h.get? a = some o ∧ o.cls = .type "tuple" ∧ o.data = .seq its n ∧ Vals vs its.toList := by
  rcases q with q | ⟨o, its, n, lk, hc, hd, _, r⟩
  · obtain ⟨_, its, r, o, ho, hc, n, hd⟩ := (show ObjOk P w H h a (.tup vs) from q.ok ok)
    exact ⟨o, its.toArray, n, ho, hc, hd, by simpa using r⟩
  · exact ⟨o, its, n, kin _ _ lk, hc, hd, r⟩
mutual
theorem dat_reads {Γ : Gam} {P : Program} {w : World} {M : Addr → Prop} {H : Hp} {h : Heap} (ok : HOk P w H h) (kin : Γ.K.In h) : ∀ {v : V} {d : D} {u : Value}, Dat Γ M H v d → flk d = true → RelV v u → Reads h u d.toPy []
  | _, _, _, .non, _, r => by cases r; rw [D.toPy]; exact .none
  | _, _, _, .bl b, _, r => by cases r; rw [D.toPy]; exact .bool b
  | _, _, _, .int i, _, r => by obtain ⟨t, rfl⟩ := r; rw [D.toPy]; exact .int i t
  | _, _, _, .str x, _, r => by obtain ⟨t, rfl⟩ := r; rw [D.toPy]; exact .str x t
  | _, _, _, .tup t r, f, z => by
    obtain ⟨o, its, n, ho, hc, hd, rv⟩ := sqT_at ok kin t.sq
    cases z
    rw [D.toPy]
    exact .tuple ho hc hd (dats_reads ok kin r (by simpa only [flk] using f) rv)
  | _, _, _, .lst _ _ _, f, _ => by simp [flk] at f
  | _, _, _, .ins _ _ _ _ _, f, _ => by simp [flk] at f
  | _, _, _, .odd _ _, f, _ => by simp [flk] at f
  | _, _, _, .dic _ _ _ _, f, _ => by simp [flk] at f
  | _, _, _, .cls _, f, _ => by simp [flk] at f
  | _, _, _, .val _, f, _ => by simp [flk] at f
  | _, _, _, .raw _, f, _ => by simp [flk] at f
theorem dats_reads {Γ : Gam} {P : Program} {w : World} {M : Addr → Prop} {H : Hp} {h : Heap} (ok : HOk P w H h) (kin : Γ.K.In h) : ∀ {vs : List V} {ds : List D} {us : List Value}, Dats Γ M H vs ds → flks ds = true → Vals vs us → ReadsAll h us (D.toPys ds) []
  | _, _, _, .nil, _, .nil => by rw [D.toPys]; exact .nil
  | _, _, _, .cons a r, f, .cons z y => by
    rw [flks, Bool.and_eq_true] at f
    rw [D.toPys]
    exact ReadsAll.cons (as := []) (bs := []) (dat_reads ok kin a f.1 z) (dats_reads ok kin r f.2 y)
end
section
variable {Γ : Gam} {X : Cx} {pins : List (Addr × Obj)} {σ : St} {H : Hp} {s : Shared}
theorem er1 {H : Hp} {v : V} {d : D} (h : Dat Γ (fun _ => False) H v d) : ER Γ ⟨fun _ => False, fun _ _ => False, H⟩ ([v].map some) [.dat d] := by
  refine ⟨rfl, fun i t hi => ?_, fun _ _ z => z, fun _ _ _ z => z.elim, fun _ z => z.elim, fun _ _ _ z => z⟩
  match i, hi with
  | 0, hi => cases hi; exact .inr ⟨v, rfl, h, fun _ z => z⟩
  | n + 1, hi => cases hi
/-- one call of f -/
theorem key_turn {k : Nat} {g : Fn Γ} {fa : Addr} {fd : FuncData} {ps : List Str} (hK : Γ.K = X.K) (F : FnOk X.prog X.w Γ.K X.mg X.base CX0 k fa fd ps (spG Γ 1 g)) (hr : Room (k + 2) X.A) (hb : Binds Γ.K fd ps []) (I : Inv X pins σ H s) {M : Addr → Prop} {v : V} {d kd : D} {u : Value} (hd : Dat Γ M H v d) (fd1 : flk d = true) (hg : keyO g d = some kd) (fk : flk kd = true) (r : RelV v u)
    (s₁ : Shared) (o1 : s₁.os = s.os) (b1 : PyProof.Rows.AllBare s₁.gens) (kf : Skx.KF (frs X.stack) s.heap s₁.heap) :
    wpAny (model X.prog X.w) X.A.in1.in1 (call (.ref fa) [u]) (Skx.KeyG (frs X.stack) kd.toPy s₁) (fun _ _ => False) s₁ := by
  have nfs : ∀ b u, H b = some u → b ∉ frs X.stack := fun b u e z => by rw [I.stkFree b z] at e; cases e
  have hok0 : HOk X.prog X.w (H0 H s.heap) s₁.heap := fun b u' e => by
    obtain ⟨o, xs, rfl, q⟩ := h0_some e
    have at1 : ∀ {o : Obj}, H b ≠ none → s.heap.get? b = some o → s₁.heap.get? b = some o := fun {o} hn ho => (kf b o ho).1 (by
      cases hh : H b with
      | none => exact absurd hh hn
      | some u => exact nfs b u hh)
    rcases q with ⟨q, ho⟩ | q
    · obtain ⟨z1, its, z2, o', ho', z3, z4⟩ := (show ObjOk X.prog X.w H s.heap b (.tup xs) from I.hok b _ q)
      rw [ho] at ho'
      cases ho'
      have h1 := at1 (by rw [q]; simp) ho
      exact ⟨h1, z1, its, z2, o, h1, z3, z4⟩
    · obtain ⟨ho, z1, its, z2, o', ho', z3, z4⟩ := (show ObjOk X.prog X.w H s.heap b (.frz o (.tup xs)) from I.hok b _ q)
      rw [ho] at ho'
      cases ho'
      have h1 := at1 (by rw [q]; simp) ho
      exact ⟨h1, z1, its, z2, o, h1, z3, z4⟩
  have e := I.env0
  have bs1 : ∀ b o, X.base.get? b = some o → s₁.heap.get? b = some o ∧ H0 H s.heap b = none := fun b o q => by
    obtain ⟨h1, h2⟩ := e.bs b o q
    refine ⟨(kf b o h1).1 fun z => ?_, h0_none h2⟩
    have := (I.stack.mem z).1
    rw [q] at this
    cases this
  have e0 : Env0 X.prog X.w Γ.K X.mg X.base X.A.in1.in1 X.stack s₁ (H0 H s.heap) := by
    refine ⟨e.in1.in1.frames, hK ▸ e.mod, bs1, ?_, ?_, fun b hb => h0_none (e.frf b hb), hok0, b1⟩
    · obtain ⟨m, ⟨o, es, ep, ho, _⟩, _⟩ := I.loc
      obtain ⟨_, sl, h2⟩ := kf _ o ho
      exact Nat.le_trans I.ok.bsz (Nat.le_trans I.ok.above (Nat.le_of_lt (Heap.lt_size h2)))
    · refine e.funs.of_keeps fun b o ho _ => ?_
      obtain ⟨_, sl, h2⟩ := kf b o ho
      exact ⟨_, h2, rfl⟩
  have kin1 : Γ.K.In s₁.heap := hK ▸ I.mod.kin.keeps fun b o q => (bs1 b o q).1
  have gk : ∃ a', g [.dat d] = some (.dat kd, a') := by
    unfold keyO at hg
    cases q : g [.dat d] with
    | none => rw [q] at hg; cases hg
    | some z =>
      obtain ⟨t, a'⟩ := z
      rw [q] at hg
      cases t with
      | dat k' => exact ⟨a', by rw [Option.some.inj hg]⟩
      | _ => cases hg
  obtain ⟨a', ga⟩ := gk
  have er := er1 (dat_h0 I.hok hd fd1)
  have hl : ([u] ++ [] : List Value).length = ps.length := F.len [v] (H0 H s.heap) (fun _ _ => True) E0 ⟨_, _, _, ⟨fun _ => False, fun _ _ => False, H0 H s.heap⟩, ga, rfl, rfl, er, fun _ _ _ _ _ _ _ => trivial⟩
  have sp : spG Γ 1 g [v] (H0 H s.heap) (fun v' H' => ∃ M', Dat Γ M' H' v' kd) E0 := ⟨_, _, _, ⟨fun _ => False, fun _ _ => False, H0 H s.heap⟩, ga, rfl, rfl, er, fun v' w' Fr _ t _ _ => ⟨w'.M, t.rep.1⟩⟩
  refine wpAny_call (codeAny_mono (F.run X.A.in1.in1 X.stack s₁ (H0 H s.heap) ⟨[u], []⟩ ([u] ++ []) [v] _ E0 hr.in1.in1 e0 (hb s₁ [u] kin1 hl) (.cons r .nil) sp) fun rs s₂ hq => ?_)
  cases rs with
  | error e => exact hq
  | ok fl =>
    cases fl with
    | ret u' =>
      obtain ⟨v', H', os, bare, un, hok, rr, M', hD⟩ := hq
      have kp : Skx.KF (frs X.stack) s₁.heap s₂.heap := fun b o ho => by
        cases q : H0 H s.heap b with
        | none => exact ⟨fun hb => un.keep b o ho q hb (by simp), un.any ho q (by simp)⟩
        | some u0 =>
          obtain ⟨o', xs, rfl, _⟩ := h0_some q
          have h1 := (show ObjOk X.prog X.w (H0 H s.heap) s₁.heap b (.frz o' (.tup xs)) from hok0 b _ q).1
          have h2 := (show ObjOk X.prog X.w H' s₂.heap b (.frz o' (.tup xs)) from hok b _ (un.frzs b _ _ q)).1
          rw [ho] at h1
          cases h1
          exact ⟨fun _ => h2, o.slots, h2⟩
      have kin2 : Γ.K.In s₂.heap := hK ▸ I.mod.kin.keeps fun b o q => (kp b o (bs1 b o q).1).1 fun z => by
        have := (I.stack.mem z).1
        rw [q] at this
        cases this
      exact ⟨os, bare, kp, dat_reads hok kin2 hD fk rr⟩
    | next => exact False.elim hq
    | brk => exact False.elim hq
    | cont => exact False.elim hq
end
end G

set_option maxHeartbeats 4000000
namespace G
open PySem L2 PySem.Spec
def allK {Γ : Gam} (g : Fn Γ) (ds : List D) : Bool := ds.all fun d => flk d && (keyO g d).isSome && flk (keyK g d)
theorem allK_mem {Γ : Gam} {g : Fn Γ} {ds : List D} (h : allK g ds = true) {d : D} (hd : d ∈ ds) : flk d = true ∧ keyO g d = some (keyK g d) ∧ flk (keyK g d) = true := by
  have := List.all_eq_true.mp h d hd
  simp only [Bool.and_eq_true] at this
  obtain ⟨⟨h1, h2⟩, h3⟩ := this
  refine ⟨h1, ?_, h3⟩
  obtain ⟨k, hk⟩ := Option.isSome_iff_exists.mp h2
  unfold keyK
  rw [hk]
  rfl
def rSortK (Γ : Gam) (g : Fn Γ) (fa : Addr) : List V → List V → Hp → VK → Prop := fun vs zs H Q => zs = [V.ref fa] ∧ ∃ (a : Addr) (xs : List V) (ds : List D) (M : Addr → Prop), vs = [V.ref a] ∧ SqL Γ.K H a xs ∧ Dats Γ M H xs ds ∧ allK g ds = true ∧ okSort (ds.map (keyK g)) = true ∧
  ∀ p, H p = none → Q (.ref p) (upd H p (.lst (((xs.zip ds).mergeSort fun a b => leD (keyK g a.2) (keyK g b.2)).map (·.1))))
section
variable {Γ : Gam} {X : Cx}
theorem cr_sortK {k : Nat} {g : Fn Γ} {fa : Addr} {fd : FuncData} {ps : List Str} (hK : Γ.K = X.K) (hu : X.A.units + 65 < cLine) (F : FnOk X.prog X.w Γ.K X.mg X.base CX0 k fa fd ps (spG Γ 1 g)) (hr : Room (k + 2) X.A) (hb : Binds Γ.K fd ps []) : CallRK X (.builtin "sorted") ["key"] (rSortK Γ g fa) := by
  intro pins s σ H vs zs us ws Q I r rz h
  obtain ⟨rfl, a, xs, ds, M, rfl, hs, hd, hall, ok, q⟩ := h
  obtain ⟨its, rv, hl, hz⟩ := I.list (hK ▸ hs)
  rw [Vals.ref1 r, Vals.ref1 rz]
  obtain ⟨k1, k2, k3, k4, k5⟩ := okSort_iff.mp ok
  have k5 : ds.length ≤ sizeLine := by rw [List.length_map] at k5; exact k5
  have lx : xs.length = ds.length := hd.length
  have mz : ∀ {b : V × D}, b ∈ xs.zip ds → b.2 ∈ ds := fun {b} hb => (List.of_mem_zip (a := b.1) (b := b.2) hb).2
  have mk : ∀ {b : V × D}, b ∈ xs.zip ds → keyK g b.2 ∈ ds.map (keyK g) := fun {b} hb => List.mem_map.mpr ⟨_, mz hb, rfl⟩
  have lz : (xs.zip ds).length = ds.length := by rw [List.length_zip]; omega
  have frz : ∀ b u, H b = some u → b ∉ frs X.stack := fun b u e z => by rw [I.stkFree b z] at e; cases e
  refine Skx.sorted_keyG (fs := frs X.stack) (β := V × D) (vs := its) (bs := xs.zip ds) (R := fun u b => RelV b.1 u) (b := false) (fun b => (keyK g b.2).toPy) I.bare (fun c hc => ?_) hl.isList (each_rel ds rv lx) ?_ ?_ (by rw [lz]; exact k5) (fun b hb => by have := k3 _ (mk hb); omega) (PyProof.Rows.ksk_s1 _ _) (fun _ => PyProof.Rows.ksk_l1 _ _) (fun _ => PyProof.Rows.ksk_t1 _ _)
    (fun v b hR hb' s₁ o1 b1 kf => ?_) fun s' out c os' bare' kf hD len eo => ?_
  · obtain ⟨_, o, ho, _⟩ := I.stack.mem hc
    exact Heap.lt_size ho
  · intro d hd' d' hd''
    obtain ⟨b, hb, rfl⟩ := List.mem_map.mp hd'
    obtain ⟨b', hb', rfl⟩ := List.mem_map.mp hd''
    exact k1 _ (mk hb) _ (mk hb')
  · rcases k2 with z | z
    · refine .inl fun d hd' => ?_
      obtain ⟨b, hb, rfl⟩ := List.mem_map.mp hd'
      have := z _ (mk hb)
      cases e : keyK g b.2 with
      | tup ts =>
        cases ts with
        | nil => rw [e] at this; cases this
        | cons t ts => exact ⟨t.toPy, D.toPys ts, by rw [D.toPy, D.toPys]⟩
      | _ => rw [e] at this; cases this
    · refine .inr fun d hd' => ?_
      obtain ⟨b, hb, rfl⟩ := List.mem_map.mp hd'
      have := z _ (mk hb)
      cases e : keyK g b.2 <;> first
        | (rw [e] at this; cases this; done)
        | (rw [D.toPy]; exact ⟨(fun z => by cases z), (fun _ z => by cases z)⟩)
  · obtain ⟨f1, f2, f3⟩ := allK_mem hall (mz hb')
    exact key_turn hK F hr hb I (hd.zipMem b hb') f1 f2 f3 hR s₁ o1 b1 kf
  · have hp : H (s.heap.objs.size + 1) = none := I.hok.fresh (Nat.le_succ _)
    have ne : ∀ b o, s.heap.get? b = some o → b ≠ s.heap.objs.size + 1 := fun b o e => Nat.ne_of_lt (Nat.lt_succ_of_lt (Heap.lt_size e))
    have neH : ∀ b u, H b = some u → b ≠ s.heap.objs.size + 1 := fun b u e z => by rw [z, hp] at e; cases e
    refine ⟨.ref _, upd H (s.heap.objs.size + 1) (.lst (((xs.zip ds).mergeSort fun a b => leD (keyK g a.2) (keyK g b.2)).map (·.1))), I.call' (ch := []) os' ⟨fun b o e n hb _ => (kf b o e).1 hb, fun b o e n hb _ => (kf b o e).2, fun b o e n _ => by rw [upd_ne (ne b o e)]; exact n, fun b o e _ => ⟨_, (kf b o e).2.choose_spec⟩, fun b ys e => by rw [upd_ne (neH b _ e)]; exact e, fun b o u e => by rw [upd_ne (neH b _ e)]; exact e, fun b pp e => ⟨#[], by rw [upd_ne (neH b _ e), Array.append_empty]; exact e⟩⟩ (fun b u e => ?_) bare' (by simp), rfl, q _ hp⟩
    by_cases hb : b = s.heap.objs.size + 1
    · subst hb
      rw [upd_same] at e
      cases e
      refine ⟨?_, out, c, each_vals eo, hD⟩
      rw [List.length_map, List.length_mergeSort, lz]
      exact k5
    · rw [upd_ne hb] at e
      refine (I.hok b u e).stay (fun b' u' hb' ho => (kf b' u' ho).1 ?_) (fun b' e' => by rw [upd_ne (neH b' _ e')]; exact e') fun b' ys e' => by rw [upd_ne (neH b' _ e')]; exact e'
      rcases hb' with rfl | hb'
      · exact frz _ _ e
      · exact frz _ _ hb'
theorem pSortK_ok {g : Fn Γ} {fa : Addr} : Prim1 Γ (fun x H Q => rSortK Γ g fa [x] [.ref fa] H Q) (pSortK (Γ := Γ) g) := by
  intro M H x sx s Gx Q dom hp hx k
  unfold pSortK at hp
  split at hp
  · rename_i ds g1
    split at hp
    · rename_i ok
      cases hp
      obtain ⟨p, vs, rfl, hs, r⟩ := hx.list g1
      refine ⟨rfl, p, vs, ds, M, rfl, hs, r, ok.1, ok.2, fun q hq => ?_⟩
      have r2 : Dats Γ M H (((vs.zip ds).mergeSort fun a b => leD (keyK g a.2) (keyK g b.2)).map (·.1)) (((vs.zip ds).mergeSort fun a b => leD (keyK g a.2) (keyK g b.2)).map (·.2)) :=
        Dats.zipPerm fun b hb => r.zipMem b ((List.mergeSort_perm _ _).mem_iff.mp hb)
      have e2 : ((vs.zip ds).mergeSort fun a b => leD (keyK g a.2) (keyK g b.2)).map (·.2) = ds.mergeSort fun a b => leD (keyK g a) (keyK g b) := by
        rw [List.map_mergeSort (s := fun a b => leD (keyK g a) (keyK g b)) (fun a _ b _ => rfl), List.map_snd_zip (by rw [r.length]; exact Nat.le_refl _)]
      rw [e2] at r2
      exact k.lst r2 hq
    · cases hp
  · cases hp
/-- sorted(e, key=f) -/
theorem sd_sortK {x : Str} {g : Fn Γ} {j k : Nat} {e : Expr} {fe : AE Γ} {p p2 kp pos : Pos} (c : Ca Γ X.prog X.w X.mg X.base x 1 g k) (hr : Room j X.A) (hj : k + 2 ≤ j) (hgx : Gl X x) (hg : Gl X "sorted") (hm : X.mg "sorted" = none) (ha : SdA Γ X e fe) (hs : NS X e) (hd : (x == ("__debug__" : Str)) = false := by decide) :
    SdE Γ X (.Call (.Name "sorted" p) [e] [⟨some "key", .Name x p2, kp⟩] pos) (m1 (pSortK g) fe) := by
  refine ⟨?_⟩
  intro hK σ env r env' w Q he E kk
  obtain ⟨f, fd, ps, F, hmx, hkeep, hb⟩ := c
  refine wE.of (pe_callBK (id := "sorted") (x := "sorted") (cr_sortK hK.k hK.un F (hr.mono hj) hb) hg hm PyProof.Rows.boot_sorted (pa_cons pe_wE pa_nil (hs [])) (pk_cons (pe_glob (v := .ref f) hgx hmx rfl hd) pk_nil) (by decide) (by decide) (by rw [hs []]; rfl) (by rw [hs []]; rfl) rfl rfl rfl) ?_
  exact run1 pSortK_ok ha hK he E kk
end
end G

set_option maxHeartbeats 4000000
namespace G
open PySem L2
def inLd {Γ : Gam} (vs1 : List Nat) (t1 : Eg Γ) (tc1 : Et Γ) (f : Ev Γ) : List D → Env Γ → Option (List D × Env Γ)
  | [], env => some ([], env)
  | d :: ds, env => match t1 d env with
    | none => none
    | some e1 => match tc1 e1 with
      | none => none
      | some (false, e2) => match wipeE vs1 e2 with
        | none => none
        | some e3 => inLd vs1 t1 tc1 f ds e3
      | some (true, e2) => match f e2 with
        | some (.dat y, e4) => match wipeE vs1 e4 with
          | none => none
          | some e3 => (inLd vs1 t1 tc1 f ds e3).map fun p => (y :: p.1, p.2)
        | _ => none
def outLd {Γ : Gam} (vs : List Nat) (t : Eg Γ) (fi1 : Ei Γ) (vs1 : List Nat) (t1 : Eg Γ) (tc1 : Et Γ) (f : Ev Γ) : List D → Env Γ → Option (List D × Env Γ)
  | [], env => some ([], env)
  | d :: ds, env => match t d env with
    | none => none
    | some e1 => match fi1 e1 with
      | none => none
      | some (ds1, e2) => match wipeE vs1 e2 with
        | none => none
        | some e3 => match inLd vs1 t1 tc1 f ds1 e3 with
          | none => none
          | some (ys, e4) => match wipeE vs e4 with
            | none => none
            | some e5 => (outLd vs t fi1 vs1 t1 tc1 f ds e5).map fun p => (ys ++ p.1, p.2)
/-- [f for t in fi for t1 in fi1] -/
def mLc2d {Γ : Gam} (fi : Ei Γ) (vs : List Nat) (t : Eg Γ) (fi1 : Ei Γ) (vs1 : List Nat) (t1 : Eg Γ) (tc1 : Et Γ) (f : Ev Γ) : Ev Γ := fun env =>
  match fi env with
  | none => none
  | some (ds, env1) => match wipeE vs env1 with
    | none => none
    | some e2 => match outLd vs t fi1 vs1 t1 tc1 f ds e2 with
      | none => none
      | some (ys, e3) => if ys.length ≤ sizeLine then some (.lst ys, backE env1 e3 vs) else none
section
variable {Γ : Gam} {X : Cx}
theorem lc2d_run {tg iter tg1 iter1 elt : Expr} {scope : Scope} {ifs1 : List Expr} {tt1 : TT} {tc1 : Et Γ} {fi fi1 : Ei Γ} {t t1 : Eg Γ} {f : Ev Γ} {vs vs1 : List Nat} {σ : St} {env envF : Env Γ} {r : Sl Γ} {w : Wd} {Q : VK} (hK : Gd Γ X) (hsub : ∀ i ∈ vs1, i ∈ vs)
    (hi : SdI Γ X tg iter fi) (hg : AllB X scope fun Y => SdG Γ Y vs tg t) (hi1 : AllB X scope fun Y => SdI Γ Y tg1 iter1 fi1) (hg1 : AllB X scope fun Y => SdG Γ Y vs1 tg1 t1) (hc1 : SdC Γ X scope ifs1 tt1 tc1) (hf : AllB X scope fun Y => SdE Γ Y elt f)
    (he : mLc2d fi vs t fi1 vs1 t1 tc1 f env = some (r, envF)) (E : ER Γ w σ env)
    (k : ∀ v w' Fr, ER Γ w' σ envF → TR Γ w' v r Fr → Step w w' → Fresh w Fr → Q v w'.H) : tLc2 (wI X tg iter) (bG X scope tg) tYes (bI X scope tg1 iter1) (bG X scope tg1) tt1 (bE X scope elt) vs vs1 σ w.H Q := by
  unfold mLc2d at he
  cases g1 : fi env with
  | none => simp only [g1] at he; cases he
  | some q =>
    obtain ⟨ds, env1⟩ := q
    simp only [g1] at he
    cases g2 : wipeE vs env1 with
    | none => simp only [g2] at he; cases he
    | some e2 =>
      simp only [g2] at he
      cases g3 : outLd vs t fi1 vs1 t1 tc1 f ds e2 with
      | none => simp only [g3] at he; cases he
      | some q =>
        obtain ⟨ys, e3⟩ := q
        simp only [g3] at he
        split at he
        · rename_i hlen
          cases he
          refine hi hK σ env ds env1 w _ g1 E fun J w1 E1 p1 ok1 => ?_
          intro Dd hD
          have hDw : w.H Dd = none := by
            cases q : w.H Dd with
            | none => rfl
            | some u => exact absurd hD (p1.live Dd (by rw [q]; simp))
          obtain ⟨E1w, hF1⟩ := E1.wipe g2
          obtain ⟨E1g, p1g⟩ := E1w.grow (Fr := fun a => a = Dd) (H' := upd w1.H Dd (.lst [])) (upd_keep hD) (fun a z => by subst z; exact ⟨hD, by rw [upd_same]; simp⟩)
          have hn1 := (wipeE_some g2).2
          refine ⟨fun i m H' => m = ds.length - i ∧ i ≤ ds.length ∧ ∃ env' w' accD ys2, w'.H = H' ∧ Acc w w1 Dd (L2.wipe σ vs) env' w' accD ∧ (∀ j ∈ vs, ∀ a, ¬ w'.F j a) ∧ outLd vs t fi1 vs1 t1 tc1 f (ds.drop i) env' = some (ys2, e3) ∧ ys = accD ++ ys2,
            ⟨ds.length, rfl, Nat.zero_le _, e2, ⟨fun a => w1.M a ∨ a = Dd, w1.F, upd w1.H Dd (.lst [])⟩, [], ys, rfl, ⟨⟨[], upd_same, .nil⟩, E1g, p1.trans p1g E.dom, E1w.go p1g, .inr rfl, fun j z => E1.dom Dd (E1.sub j Dd z) hD⟩, hF1, g3, rfl⟩, ?_⟩
          rintro i m H2 ⟨rfl, hi2, env2, w2, accD, ys2, rfl, A2, hF2, he2, ey⟩
          by_cases hlt : i < ds.length
          · refine .inr ?_
            have hd : ds[i]? = some ds[i] := List.getElem?_eq_getElem hlt
            rw [List.drop_eq_getElem_cons hlt] at he2
            unfold outLd at he2
            obtain ⟨go, yl⟩ := ok1.go w2.M w2.H A2.go A2.er.dom i _ hd
            cases g4 : t ds[i] env2 with
            | none => simp only [g4] at he2; cases he2
            | some e4 =>
              simp only [g4] at he2
              cases g5 : fi1 e4 with
              | none => simp only [g5] at he2; cases he2
              | some q =>
                obtain ⟨ds1, e5⟩ := q
                simp only [g5] at he2
                cases g6 : wipeE vs1 e5 with
                | none => simp only [g6] at he2; cases he2
                | some e6 =>
                  simp only [g6] at he2
                  cases g7 : inLd vs1 t1 tc1 f ds1 e6 with
                  | none => simp only [g7] at he2; cases he2
                  | some q =>
                    obtain ⟨ysI, e7⟩ := q
                    simp only [g7] at he2
                    cases g8 : wipeE vs e7 with
                    | none => simp only [g8] at he2; cases he2
                    | some e8 =>
                      simp only [g8] at he2
                      cases g9 : outLd vs t fi1 vs1 t1 tc1 f (ds.drop (i + 1)) e8 with
                      | none => rw [g9] at he2; cases he2
                      | some q =>
                        obtain ⟨ys3, e9⟩ := q
                        rw [g9] at he2
                        cases he2
                        refine ⟨go, fun H' => ∃ env' w' accD ys2, w'.H = H' ∧ Acc w w1 Dd (L2.wipe σ vs) env' w' accD ∧ (∀ j ∈ vs, ∀ a, ¬ w'.F j a) ∧ outLd vs t fi1 vs1 t1 tc1 f (ds.drop (i + 1)) env' = some (ys2, e9) ∧ ys = accD ++ ys2, ?_, ?_⟩
                        · rintro H' ⟨env', w', rr⟩
                          exact ⟨ds.length - (i + 1), by omega, rfl, hlt, env', w', rr⟩
                        · intro x H3 y
                          obtain ⟨ext, hx⟩ := yl x H3 y
                          obtain ⟨E3, p3⟩ := A2.er.grow (Fr := fun _ => False) ext (fun _ z => z.elim)
                          have hx' : Dat Γ (fun a => w2.M a ∨ False) H3 x ds[i] := hx.go go_or
                          intro s5 H5 C5 cl5 fp5
                          refine hg s5 H5 C5 cl5 fp5 (hK.blk s5 H5 C5 cl5 fp5) (L2.wipe σ vs) env2 ds[i] e4 ⟨fun a => w2.M a ∨ False, w2.F, H3⟩ x _ g4 E3 hx' fun σ4 w4 E4 p4 a4 => ?_
                          have ew := agree_wipe a4
                          have A4 := A2.next E.dom E4 (p3.trans p4 A2.er.dom)
                          refine ⟨ew, ?_⟩
                          refine tyes ?_
                          intro s6 H6 C6 cl6 fp6
                          refine hi1 s6 H6 C6 cl6 fp6 (hK.blk s6 H6 C6 cl6 fp6) σ4 e4 ds1 e5 w4 _ g5 E4 fun J1 w5 E5 p5 ok5 => ?_
                          have A5 := A4.next E.dom E5 p5
                          obtain ⟨E6, hF6⟩ := E5.wipe g6
                          have A6 : Acc w w1 Dd (L2.wipe σ4 vs1) e6 w5 accD := ⟨A5.ex, E6, A5.st, A5.go, A5.m, A5.off⟩
                          refine ⟨fun j l H' => l = ds1.length - j ∧ j ≤ ds1.length ∧ ∃ env' w' acc1 ys4, w'.H = H' ∧ Acc w w1 Dd (L2.wipe σ4 vs1) env' w' acc1 ∧ Go w5.M w5.H w'.M w'.H ∧ (∀ j ∈ vs1, ∀ a, ¬ w'.F j a) ∧ inLd vs1 t1 tc1 f (ds1.drop j) env' = some (ys4, e7) ∧ accD ++ ysI = acc1 ++ ys4,
                            ⟨ds1.length, rfl, Nat.zero_le _, e6, w5, accD, ysI, rfl, A6, Go.refl _ _, hF6, g7, rfl⟩, ?_⟩
                          rintro j l H7 ⟨rfl, hj, env7, w7, acc1, ys4, rfl, A7, go7, hF7, he7, ey7⟩
                          by_cases hl1 : j < ds1.length
                          · refine .inr ?_
                            have hd1 : ds1[j]? = some ds1[j] := List.getElem?_eq_getElem hl1
                            rw [List.drop_eq_getElem_cons hl1] at he7
                            unfold inLd at he7
                            obtain ⟨goj, ylj⟩ := ok5.go w7.M w7.H go7 A7.er.dom j _ hd1
                            cases h4 : t1 ds1[j] env7 with
                            | none => simp only [h4] at he7; cases he7
                            | some a4' =>
                              simp only [h4] at he7
                              cases hcc : tc1 a4' with
                              | none => simp only [hcc] at he7; cases he7
                              | some q =>
                              obtain ⟨bb, a40⟩ := q
                              cases bb with
                              | false =>
                                simp only [hcc] at he7
                                cases h6 : wipeE vs1 a40 with
                                | none => simp only [h6] at he7; cases he7
                                | some a6' =>
                                  simp only [h6] at he7
                                  refine ⟨goj, fun H' => ∃ env' w' acc1 ys4, w'.H = H' ∧ Acc w w1 Dd (L2.wipe σ4 vs1) env' w' acc1 ∧ Go w5.M w5.H w'.M w'.H ∧ (∀ j ∈ vs1, ∀ a, ¬ w'.F j a) ∧ inLd vs1 t1 tc1 f (ds1.drop (j + 1)) env' = some (ys4, e7) ∧ accD ++ ysI = acc1 ++ ys4, ?_, ?_⟩
                                  · rintro H' ⟨env', w', rr⟩
                                    exact ⟨ds1.length - (j + 1), by omega, rfl, hl1, env', w', rr⟩
                                  · intro x1 H8 y1
                                    obtain ⟨ext1, hx1⟩ := ylj x1 H8 y1
                                    obtain ⟨E8, p8⟩ := A7.er.grow (Fr := fun _ => False) ext1 (fun _ z => z.elim)
                                    have hx1' : Dat Γ (fun a => w7.M a ∨ False) H8 x1 ds1[j] := hx1.go go_or
                                    intro s9 H9 C9 cl9 fp9
                                    refine hg1 s9 H9 C9 cl9 fp9 (hK.blk s9 H9 C9 cl9 fp9) (L2.wipe σ4 vs1) env7 ds1[j] a4' ⟨fun a => w7.M a ∨ False, w7.F, H8⟩ x1 _ h4 E8 hx1' fun σ9 w9 E9 p9 a9 => ?_
                                    have ew9 := agree_wipe a9
                                    have p89 := p8.trans p9 A7.er.dom
                                    have A9 := A7.next E.dom E9 p89
                                    refine ⟨ew9, ?_⟩
                                    refine hc1.run hK hcc E9 fun w10 E10 p10 => ?_
                                    have A10 := A9.next E.dom E10 p10
                                    obtain ⟨E11, hF11⟩ := E10.wipe h6
                                    rw [ew9] at E11
                                    simp only [Bool.false_eq_true, if_false]
                                    exact ⟨a6', w10, acc1, ys4, rfl, ⟨A10.ex, E11, A10.st, A10.go, A10.m, A10.off⟩, go7.trans (A7.er.go (p89.trans p10 A7.er.dom)), hF11, he7, ey7⟩
                              | true =>
                              simp only [hcc] at he7
                              cases h5 : f a40 with
                              | none => simp only [h5] at he7; cases he7
                              | some q =>
                                obtain ⟨sy, a5'⟩ := q
                                cases sy with
                                | dat yv =>
                                  simp only [h5] at he7
                                  cases h6 : wipeE vs1 a5' with
                                  | none => simp only [h6] at he7; cases he7
                                  | some a6' =>
                                    simp only [h6] at he7
                                    cases h7 : inLd vs1 t1 tc1 f (ds1.drop (j + 1)) a6' with
                                    | none => rw [h7] at he7; cases he7
                                    | some q =>
                                      obtain ⟨ys5, a7'⟩ := q
                                      rw [h7] at he7
                                      cases he7
                                      refine ⟨goj, fun H' => ∃ env' w' acc1 ys4, w'.H = H' ∧ Acc w w1 Dd (L2.wipe σ4 vs1) env' w' acc1 ∧ Go w5.M w5.H w'.M w'.H ∧ (∀ j ∈ vs1, ∀ a, ¬ w'.F j a) ∧ inLd vs1 t1 tc1 f (ds1.drop (j + 1)) env' = some (ys4, a7') ∧ accD ++ ysI = acc1 ++ ys4, ?_, ?_⟩
                                      · rintro H' ⟨env', w', rr⟩
                                        exact ⟨ds1.length - (j + 1), by omega, rfl, hl1, env', w', rr⟩
                                      · intro x1 H8 y1
                                        obtain ⟨ext1, hx1⟩ := ylj x1 H8 y1
                                        obtain ⟨E8, p8⟩ := A7.er.grow (Fr := fun _ => False) ext1 (fun _ z => z.elim)
                                        have hx1' : Dat Γ (fun a => w7.M a ∨ False) H8 x1 ds1[j] := hx1.go go_or
                                        intro s9 H9 C9 cl9 fp9
                                        refine hg1 s9 H9 C9 cl9 fp9 (hK.blk s9 H9 C9 cl9 fp9) (L2.wipe σ4 vs1) env7 ds1[j] a4' ⟨fun a => w7.M a ∨ False, w7.F, H8⟩ x1 _ h4 E8 hx1' fun σ9 w9 E9 p9 a9 => ?_
                                        have ew9 := agree_wipe a9
                                        have p89 := p8.trans p9 A7.er.dom
                                        have A9 := A7.next E.dom E9 p89
                                        refine ⟨ew9, ?_⟩
                                        refine hc1.run hK hcc E9 fun w90 E90 p90 => ?_
                                        rw [if_pos rfl]
                                        have A90 := A9.next E.dom E90 p90
                                        have p890 := p89.trans p90 A7.er.dom
                                        intro s10 H10 C10 cl10 fp10
                                        refine hf s10 H10 C10 cl10 fp10 (hK.blk s10 H10 C10 cl10 fp10) σ9 a40 _ a5' w90 _ h5 E90 fun v w10 Fr E10 T10 p10 f10 => ?_
                                        have A10 := A90.next E.dom E10 p10
                                        obtain ⟨acc, hacc, racc⟩ := A10.ex
                                        obtain ⟨E11, hF11⟩ := E10.wipe h6
                                        rw [ew9] at E11
                                        obtain ⟨E12, go12⟩ := E11.write (o := .lst (acc ++ [v])) A10.m A10.off
                                        have ley : ys.length = acc1.length + 1 + ys5.length + ys3.length := by
                                          have e1 := congrArg List.length ey
                                          have e2 := congrArg List.length ey7
                                          simp only [List.length_append, List.length_cons] at e1 e2
                                          omega
                                        have lacc := racc.length
                                        refine ⟨acc, hacc, by omega, a6', ⟨w10.M, w10.F, upd w10.H Dd (.lst (acc ++ [v]))⟩, acc1 ++ [yv], ys5, rfl, ⟨⟨acc ++ [v], upd_same, (racc.append (.cons T10.rep.1 .nil)).go go12⟩, E12, A10.st.write hDw, A10.go.trans go12, A10.m, A10.off⟩, (go7.trans (A7.er.go (p890.trans p10 A7.er.dom))).trans go12, hF11, h7, by rw [ey7]; simp⟩
                                | _ => simp only [h5] at he7; cases he7
                          · have ej : j = ds1.length := by omega
                            subst ej
                            rw [List.drop_length] at he7
                            cases he7
                            rw [List.append_nil] at ey7
                            refine .inl ⟨ok5.stop w7.M w7.H go7, ?_⟩
                            obtain ⟨E13, hF13⟩ := A7.er.wipe g8
                            rw [wipe_wipe hsub, ew] at E13
                            exact ⟨e8, w7, acc1, ys3, rfl, ⟨A7.ex, E13, A7.st, A7.go, A7.m, A7.off⟩, hF13, g9, by rw [ey, ← ey7, List.append_assoc]⟩
          · have ei : i = ds.length := by omega
            subst ei
            rw [List.drop_length] at he2
            cases he2
            rw [List.append_nil] at ey
            subst ey
            obtain ⟨acc, hacc, racc⟩ := A2.ex
            refine .inl ⟨ok1.stop w2.M w2.H A2.go, ?_⟩
            exact k (.ref Dd) w2 (fun a => a = Dd) (E1.back hn1 A2.er hF2 A2.go) ⟨⟨Dd, acc, rfl, hacc, racc, fun a => Iff.rfl⟩, fun a z => z ▸ A2.m, fun a j z => z ▸ A2.off j⟩ A2.st fun a z => .inr (z ▸ hDw)
        · cases he
end
section
variable {Γ : Gam} {X : Cx} {A : List Nat}
theorem sds_setLc2d (i : Nat) {y : Str} {py : Pos} {tg iter tg1 iter1 elt : Expr} {scope : Scope} {own : List (Str × Nat)} {ifs1 : List Expr} {tt1 : TT} {tc1 : Et Γ} {fi fi1 : Ei Γ} {t t1 : Eg Γ} {f : Ev Γ} {vs1 : List Nat} {pos spos : Pos} (hA : i ∈ A) (hy : X.N[i]? = some y) (hyl : X.env.scope.names.lookup y = some .local)
    (hsw : swapsWith (.ListComp elt [⟨tg, iter, [], 0⟩, ⟨tg1, iter1, ifs1, 0⟩] scope pos) (some (.Name y py)) spos.line X.env = pure true) (ok : BlkOk X.N X.env.scope scope own) (hv : ∀ i ∈ vs1, i ∈ own.map (·.2))
    (hi : SdI Γ X tg iter fi) (hg : AllB X scope fun Y => SdG Γ Y (own.map (·.2)) tg t) (hi1 : AllB X scope fun Y => SdI Γ Y tg1 iter1 fi1) (hg1 : AllB X scope fun Y => SdG Γ Y vs1 tg1 t1) (hc1 : SdC Γ X scope ifs1 tt1 tc1) (hf : AllB X scope fun Y => SdE Γ Y elt f)
    (hs : ∀ x, foldedSetIterable iter X.env x = pure x := by intro _; rfl) (hs1 : ∀ env x, foldedSetIterable iter1 env x = pure x := by intro _ _; rfl) :
    SdS Γ X A (.Assign [.Name y py] (.ListComp elt [⟨tg, iter, [], 0⟩, ⟨tg1, iter1, ifs1, 0⟩] scope pos) spos) (mSet i (mLc2d fi (own.map (·.2)) t fi1 vs1 t1 tc1 f)) := by
  refine ⟨?_⟩
  intro hK σ env fl env' w D he E k
  refine wS.of (ps_setLc2 (te := bE X scope elt) (g := bG X scope tg) (g1 := bG X scope tg1) (wi1 := bI X scope tg1 iter1) hK.calm hK.nd hy hyl hsw pi_wI ok hv (fun s H C cl fp => ⟨fun pins s' σ H' v u Q I r h => h s H C cl fp u pins s' r I⟩) (fun s H C cl fp => pts_nil)
    (fun s H C cl fp => ⟨fun pins s' σ H' R I h => h s H C cl fp pins s' I⟩) (fun s H C cl fp => ⟨fun pins s' σ H' v u Q I r h => h s H C cl fp u pins s' r I⟩) hc1.pts (fun s H C cl fp => ⟨fun pins s' σ H' Q I h => h s H C cl fp pins s' I⟩) hs hs1) ?_
  unfold mSet at he
  cases g1 : mLc2d fi (own.map (·.2)) t fi1 vs1 t1 tc1 f env with
  | none => simp only [g1] at he; cases he
  | some q =>
    obtain ⟨s, env1⟩ := q
    simp only [g1] at he
    split at he
    · rename_i hl
      cases he
      refine lc2d_run hK hv hi hg hi1 hg1 hc1 hf g1 E fun v w1 Fr E1 T1 p1 f1 => ?_
      exact k _ ⟨w1.M, fun j a => if j = i then Fr a else w1.F j a, w1.H⟩ (E1.set T1 hl) (p1.set f1) (Agree.set hA)
    · cases he
end
/-- [*a, x], a a tuple -/
def mStarE {Γ : Gam} (f h : Ev Γ) : Ev Γ := fun env =>
  match f env with
  | some (.dat (.tup ds), e1) => match h e1 with
    | some (.dat d, e2) => if ds.length + 1 ≤ sizeLine then some (.lst (ds ++ [d]), e2) else none
    | _ => none
  | _ => none
section
variable {Γ : Gam} {X : Cx} {a b : Expr} {f h : Ev Γ} {p p1 pos : Pos}
theorem sd_starE (ha : SdE Γ X a f) (hb : SdE Γ X b h) (nb : NS X b) (hst1 : starEach [.Starred a p1, b] X.env = (true, eval a X.env) :: starEach [b] X.env := by rfl) : SdE Γ X (.List [.Starred a p1, b] pos) (mStarE f h) := by
  refine ⟨fun hK σ env r env' w Q he E k => ?_⟩
  refine wE.of (pe_lst (StX.pa_star pe_wE (pa_cons pe_wE pa_nil (nb [])) hst1)) ?_
  unfold mStarE at he
  split at he
  · rename_i ds e1 g1
    split at he
    · rename_i d e2 g2
      split at he
      · rename_i hl
        cases he
        refine ha hK σ env _ _ w _ g1 E fun v w1 Fr1 E1 T1 p1 f1 => ?_
        cases T1.rep.1 with
        | @tup q0 us _ hq r1 =>
          refine ⟨q0, us, rfl, .inl (by rw [← hK.k]; exact hq.sq), ?_⟩
          refine hb hK σ e1 _ _ w1 _ g2 E1 fun u w2 Fr2 E2 T2 p2 f2 => ?_
          have r1' := r1.go (E1.go p2)
          refine ⟨by simp only [List.length_append, List.length_cons, List.length_nil, r1'.length]; omega, fun q hq => ?_⟩
          have hq' : w2.H q = none := hq
          have p12 := p1.trans p2 E.dom
          exact (res_of E2 fun v2 w3 Fr3 E3 T3 p3 f3 => k v2 w3 Fr3 E3 T3 (p12.trans p3 E.dom) (f3.back p12)).lst (r1'.append (.cons T2.rep.1 .nil)) hq'
      · cases he
    · cases he
  · cases he
end
end G


set_option maxHeartbeats 4000000
namespace G
open PySem L2
def okN {Γ : Gam} : Sl Γ → Bool
  | .dat d => nol d
  | .lst ds => nols ds
  | _ => false
theorem okN_S {Γ : Gam} {s : Sl Γ} (h : okN s = true) : okS s := by
  cases s with
  | dat d => exact h
  | lst ds => exact h
  | _ => cases h
def lendOkN {Γ : Gam} : Sl Γ → Bool
  | .none => true
  | .dat _ => true
  | .scr _ => true
  | .lst ds => nols ds
  | _ => false
open Classical in
noncomputable def mLendN {Γ : Gam} (i : Nat) (f : Ev Γ) : Ev Γ := fun env =>
  match env[i]? with
  | some (.lst ds) => match f (env.set i (.dat (.lst ds))) with
    | some (r, env') => if okN r = true ∧ env' = env.set i (.dat (.lst ds)) ∧ (env.set i .none).all lendOkN = true then some (r, env) else none
    | none => none
  | _ => none
theorem lendN_eq {Γ : Gam} {i : Nat} {f : Ev Γ} {env : Env Γ} {ds : List D} {r : Sl Γ} (h : env[i]? = some (.lst ds)) (hf : f (env.set i (.dat (.lst ds))) = some (r, env.set i (.dat (.lst ds)))) (hr : okN r = true) (ho : (env.set i .none).all lendOkN = true) : mLendN i f env = some (r, env) := by
  unfold mLendN
  rw [h]
  simp only
  rw [hf]
  simp only
  rw [if_pos ⟨hr, trivial, ho⟩]
section
variable {Γ : Gam} {X : Cx} {e : Expr} {f : Ev Γ}
theorem lendN_run (j : Nat) {σ : St} {t : Hp → VK → Prop} (h : ∀ (env : Env Γ) (r : Sl Γ) (env' : Env Γ) (w : Wd) (Q : VK), f env = some (r, env') → ER Γ w σ env → (∀ v w' Fr, ER Γ w' σ env' → TR Γ w' v r Fr → Step w w' → Fresh w Fr → Q v w'.H) → t w.H Q)
    {env : Env Γ} {r : Sl Γ} {env1 : Env Γ} {w : Wd} {Q : VK} (he : mLendN j f env = some (r, env1)) (Er : ER Γ w σ env) (k : ∀ v w' Fr, ER Γ w' σ env1 → TR Γ w' v r Fr → Step w w' → Fresh w Fr → Q v w'.H) : t w.H Q := by
  unfold mLendN at he
  split at he
  · rename_i ds gj
    split at he
    · rename_i r1 args1 g1
      split at he
      · rename_i ok
        cases he
        obtain ⟨ok1, rfl, ok3⟩ := ok
        have jl : j < env.length := (List.getElem?_eq_some_iff.mp gj).1
        obtain ⟨v0, ev, p, us, rfl, hp, hd, hF⟩ := Er.at (i := j) (s := .lst ds) (by rw [gj]; rfl)
        have fp : w.F j p := (hF p).mpr rfl
        have mp : w.M p := Er.sub j p fp
        have go0 : Go w.M w.H (fun q => w.M q ∧ q ≠ p) w.H := ⟨fun _ _ _ e => e, fun _ n _ z => n z.1⟩
        let w0 : Wd := ⟨fun q => w.M q ∧ q ≠ p, fun i q => i ≠ j ∧ w.F i q, w.H⟩
        have E0 : ER Γ w0 σ (env.set j (.dat (.lst ds))) := by
          refine ⟨by rw [List.length_set]; exact Er.len, fun i s e => ?_, fun i q f => ⟨Er.sub i q f.2, fun z => f.1 (Er.dis i j q f.2 (z ▸ fp))⟩, fun i l q f f' => Er.dis i l q f.2 f'.2, fun q m => Er.dom q m.1, fun i hi q f => Er.out i (by rw [List.length_set] at hi; exact hi) q f.2⟩
          by_cases c : i = j
          · subst c
            rw [List.getElem?_set_self jl] at e
            cases e
            exact .inr ⟨_, ev, .lst (fun z => z.2 rfl) hp (hd.go go0), fun q z => z.1 rfl⟩
          · rw [List.getElem?_set_ne (Ne.symm c)] at e
            have eF : (fun q => i ≠ j ∧ w.F i q) = w.F i := funext fun q => propext ⟨fun z => z.2, fun z => ⟨c, z⟩⟩
            rcases Er.slot i s e with ⟨z1, z2⟩ | ⟨v, e1, rv⟩
            · exact .inl ⟨z1, fun q z => z2 q z.2⟩
            · refine .inr ⟨v, e1, ?_⟩
              show SR Γ (fun q => w.M q ∧ q ≠ p) w.H v s (fun q => i ≠ j ∧ w.F i q)
              rw [eF]
              exact rv.go go0 fun _ _ _ e => e
        refine h _ r _ w0 Q g1 E0 fun v w' Fr E' T' p' f' => ?_
        have hp' : w'.H p = some (.lst us) := p'.keep p _ (fun i z => z.1 (Er.dis i j p z.2 fp)) hp
        have np' : ¬ w'.M p := fun z => by
          rcases p'.src p z with y | y
          · exact y.2 rfl
          · have y' : w.H p = none := y
            rw [hp] at y'; cases y'
        have go1 : Go w.M w.H (fun q => w'.M q ∨ q = p) w'.H := ⟨fun q u n e => p'.keep q u (fun i z => n (Er.sub i q z.2)) e, fun q n e z => by
          rcases z with z | z
          · rcases p'.src q z with y | y
            · exact n y.1
            · exact e y
          · exact n (z ▸ mp)⟩
        refine k v ⟨fun q => w'.M q ∨ q = p, fun i q => if i = j then q = p else w'.F i q, w'.H⟩ Fr ?_ ?_ ⟨fun q u n e => p'.keep q u (fun i z => n i z.2) e, fun q n m => ?_, fun q m => ?_, fun i q z => ?_, p'.live⟩ fun q f => ?_
        · refine ⟨Er.len, fun i s e => ?_, fun i q z => ?_, fun i l q z z' => ?_, fun q m => ?_, fun i hi q z => ?_⟩
          · by_cases c : i = j
            · subst c
              rw [gj] at e
              cases e
              refine .inr ⟨_, ev, p, us, rfl, hp', hd.go go1, fun q => ?_⟩
              show (if i = i then q = p else w'.F i q) ↔ q = p
              rw [if_pos rfl]
            · have e2 : (env.set j (.dat (.lst ds)))[i]? = some s := by rw [List.getElem?_set_ne (Ne.symm c)]; exact e
              have eF : (fun q => if i = j then q = p else w'.F i q) = w'.F i := funext fun q => if_neg c
              have oks : lendOkN s = true := by
                have mem : s ∈ env.set j .none := List.mem_of_getElem? (i := i) (by rw [List.getElem?_set_ne (Ne.symm c)]; exact e)
                exact List.all_eq_true.mp ok3 s mem
              show SltR Γ ⟨fun q => w'.M q ∨ q = p, fun i q => if i = j then q = p else w'.F i q, w'.H⟩ σ i s
              unfold SltR
              simp only [if_neg c]
              rcases E'.slot i s e2 with ⟨z1, z2⟩ | ⟨u, e1, rv⟩
              · exact .inl ⟨z1, z2⟩
              · rcases Er.slot i s e with ⟨z1, _⟩ | ⟨u0, e0, rv0⟩
                · subst z1
                  exact absurd rv id
                · rw [e1] at e0
                  cases e0
                  refine .inr ⟨u, e1, ?_⟩
                  cases s with
                  | none => cases rv
                  | dat d => exact ⟨rv0.1.go go1, rv.2⟩
                  | scr ns =>
                    obtain ⟨⟨a, ea, ha⟩, _⟩ := rv0
                    exact ⟨⟨a, ea, ha.go go1⟩, rv.2⟩
                  | lst ds1 =>
                    obtain ⟨q, ws, q1, q2, q3, q4⟩ := rv
                    exact ⟨q, ws, q1, q2, dats_addX hp' q3 oks, q4⟩
                  | dic _ => cases oks
                  | ins _ _ => cases oks
                  | obj _ => cases oks
          · have z' : (if i = j then q = p else w'.F i q) := z
            split at z'
            · exact .inr z'
            · exact .inl (E'.sub i q z')
          · have z1 : (if i = j then q = p else w'.F i q) := z
            have z2 : (if l = j then q = p else w'.F l q) := z'
            split at z1
            · rename_i c1
              split at z2
              · rename_i c2; rw [c1, c2]
              · exact absurd (E'.sub l q z2) (z1 ▸ np')
            · split at z2
              · exact absurd (E'.sub i q z1) (z2 ▸ np')
              · exact E'.dis i l q z1 z2
          · rcases m with m | m
            · exact E'.dom q m
            · rw [m, hp']; simp
          · have z1 : (if i = j then q = p else w'.F i q) := z
            rw [if_neg (by omega)] at z1
            exact E'.out i (by rw [List.length_set]; exact hi) q z1
        · refine ⟨?_, fun q f => .inl (T'.sub q f), fun q i f z => ?_⟩
          · exact okS_sr T'.rep (okN_S ok1) hp'
          · have z1 : (if i = j then q = p else w'.F i q) := z
            split at z1
            · exact np' (z1 ▸ T'.sub q f)
            · exact T'.off q i f z1
        · by_cases c : q = p
          · exact .inr c
          · exact .inl (p'.mu q (fun i z => n i z.2) ⟨m, c⟩)
        · rcases m with m | m
          · exact (p'.src q m).imp (·.1) id
          · exact .inl (m ▸ mp)
        · have z1 : (if i = j then q = p else w'.F i q) := z
          split at z1
          · exact .inl ⟨j, z1 ▸ fp⟩
          · exact (p'.own i q z1).imp (fun ⟨l, y⟩ => ⟨l, y.2⟩) id
        · exact (f' q f).imp (fun ⟨l, y⟩ => ⟨l, y.2⟩) id
      · cases he
    · cases he
  · cases he
theorem sd_lendN (j : Nat) (h : SdE Γ X e f) : SdE Γ X e (mLendN j f) := .mk fun hK σ env r env1 w Q he E k => lendN_run (t := fun H Q => wE X e σ H Q) j (fun env r env' w Q he E k => h hK σ env r env' w Q he E k) he E k
end
end G

set_option maxHeartbeats 4000000
namespace K
open PySem L2 G
def topS (i : Nat) : Stmt := PySem.Challenge.pw_filedalike_k32_families_of_sets.main.body.getD i (.Pass ⟨0, 0, 0, 0⟩)
abbrev xc0 : Nat → Addr := fun _ => 0
structure Tx (Γ : Gam) (mg : Str → Option Value) : Prop where
  n_abs : mg "abs" = none
  n_all : mg "all" = none
  n_any : mg "any" = none
  n_int : mg "int" = none
  n_len : mg "len" = none
  n_list : mg "list" = none
  n_max : mg "max" = none
  n_min : mg "min" = none
  n_range : mg "range" = none
  n_repr : mg "repr" = none
  n_sorted : mg "sorted" = none
  n_tuple : mg "tuple" = none

noncomputable section
variable {Γ : Gam} {P : Program} {w : World} {mg : Str → Option Value} {base : Heap}
abbrev s_told_key : Stmt := topS 1
theorem sc_told_key : FnScope ["numbers"] ["numbers"] (defScope s_told_key) := ⟨rfl, rfl, rfl, by decide +kernel, rfl, by decide +kernel, by decide +kernel⟩
def b_told_key : Es Γ := mRet (mN pTupN [.ex (mFrz (mN (pN1 pLen) [.brw 0])), .ex (mVar 0)])
def f_told_key : Fn Γ := mFun 1 0 [] b_told_key
abbrev s_subsets : Stmt := topS 2
theorem sc_subsets : GScope ["items", "rows", "row", "item"] ["items"] (defScope s_subsets) := ⟨rfl, rfl, rfl, by decide +kernel, rfl, by decide +kernel, by decide +kernel⟩
def b_subsets : Qg Γ := gSeq (gPl (xS (mSet 1 (mN pLstN [.ex (mN pTupN [])])))) (gSeq (gWhile (xTe (mT (.brw 1)))
    (gSeq (gFor (xI (iSeq (mVar 1))) (gNm 2)
    (gSeq (gYield (xE (mVar 2))) (gNx))) (gSeq (gPl (xS (mSet 1 (mLc2d (iSeq (mVar 1)) [2, 3] (gNm 2) (iSeq (mVar 0)) [3] (gNm 3) (mOrT (mNotT (mT (.brw 2))) (toT (m2 pGt (.brw 3) (.ex (m2 pIx (.brw 2) (.ex (m1 pNeg (.ex (mC (.int 1)))))))))) (m2 pAdd (.brw 2) (.ex (mN pTupN [.ex (mVar 3)]))))))) (gNx)))) (gNx))
def x_subsets : Gx Γ := gFun 1 3 b_subsets
abbrev s_is_part : Stmt := topS 3
theorem sc_is_part : FnScope ["part", "whole", "number"] ["part", "whole"] (defScope s_is_part) := ⟨rfl, rfl, rfl, by decide +kernel, rfl, by decide +kernel, by decide +kernel⟩
def b_is_part : Es Γ := mRet (mN (pN1 pAll) [.ex (mLc (iSeq (mVar 0)) [2] (gNm 2) (fun env => some (true, env)) (m2 pIn (.brw 2) (.brw 1)))])
def f_is_part : Fn Γ := mFun 2 1 [] b_is_part
abbrev s_least_of : Stmt := topS 4
theorem sc_least_of : FnScope ["family", "least", "member", "found"] ["family"] (defScope s_least_of) := ⟨rfl, rfl, rfl, by decide +kernel, rfl, by decide +kernel, by decide +kernel⟩
def b_least_of : Es Γ := mSeq (mSet 1 (mN pLstN []))
    (mSeq (mFor (iSeq (mFrz (m1 (pSortK f_told_key) (.ex (mN (pN1 pList) [.brw 0]))))) (gNm 2)
    (mIfS (mNotT (mT (.ex (mLendN 1 (mN (pN1 pAny) [.ex (mLc (iSeq (mVar 1)) [3] (gNm 3) (fun env => some (true, env)) (mFrz (mCall 2 f_is_part [.brw 3, .brw 2])))]))))) (mDrop (mMut 1 uAppend [.ex (mVar 2)])) (mNx)))
    (mRetMv 1))
def f_least_of : Fn Γ := mFun 1 3 [1, 2] b_least_of
abbrev s_shares : Stmt := topS 5
theorem sc_shares : FnScope ["one", "other", "number"] ["one", "other"] (defScope s_shares) := ⟨rfl, rfl, rfl, by decide +kernel, rfl, by decide +kernel, by decide +kernel⟩
def b_shares : Es Γ := mRet (mN (pN1 pAny) [.ex (mLc (iSeq (mVar 0)) [2] (gNm 2) (fun env => some (true, env)) (m2 pIn (.brw 2) (.brw 1)))])
def f_shares : Fn Γ := mFun 2 1 [] b_shares
abbrev s_blockers : Stmt := topS 6
theorem sc_blockers : FnScope ["family", "found", "member", "grown", "row", "number"] ["family"] (defScope s_blockers) := ⟨rfl, rfl, rfl, by decide +kernel, rfl, by decide +kernel, by decide +kernel⟩
def b_blockers : Es Γ := mSeq (mSet 1 (mN pLstN [.ex (mN pTupN [])]))
    (mSeq (mFor (iSeq (mFrz (mCall 1 f_least_of [.brw 0]))) (gNm 2)
    (mSeq (mSet 3 (mLc (iSeq (mVar 1)) [4] (gNm 4) (mT (.ex (mCall 2 f_shares [.brw 4, .brw 2]))) (mVar 4)))
    (mSeq (mFor (iSeq (mVar 1)) (gNm 4)
    (mIfS (mNotT (mT (.ex (mCall 2 f_shares [.brw 4, .brw 2])))) (mDrop (mMut 3 uExtend [.ex (mFrz (mLc (iSeq (mVar 2)) [5] (gNm 5) (fun env => some (true, env)) (mFrz (mN (pN1 pTuple) [.ex (mN (pN1 pSorted) [.ex (mStarE (mVar 4) (mVar 5))])]))))])) (mNx)))
    (mSet 1 (mCall 1 f_least_of [.brw 3])))))
    (mRetMv 1))
def f_blockers : Fn Γ := mFun 1 5 [1, 2, 3, 4] b_blockers
abbrev s_is_upward : Stmt := topS 7
theorem sc_is_upward : FnScope ["family", "items", "members", "member", "item"] ["family", "items"] (defScope s_is_upward) := ⟨rfl, rfl, rfl, by decide +kernel, rfl, by decide +kernel, by decide +kernel⟩
def b_is_upward : Es Γ := mSeq (mSet 2 (mLc (iSeq (mVar 0)) [3] (gNm 3) (fun env => some (true, env)) (mFrz (mN (pN1 pTuple) [.brw 3]))))
    (mSeq (mFor (iSeq (mVar 2)) (gNm 3)
    (mFor (iSeq (mVar 1)) (gNm 4)
    (mIfS (mAndT (toT (m2 pNotIn (.brw 4) (.brw 3))) (toT (m2 pNotIn (.ex (mN (pN1 pTuple) [.ex (mN (pN1 pSorted) [.ex (mStarE (mVar 3) (mVar 4))])])) (.brw 2)))) (mRet (mC (.bl false))) (mNx))))
    (mRet (mC (.bl true))))
def f_is_upward : Fn Γ := mFun 2 3 [2, 3, 4] b_is_upward
abbrev s_law_bag : Stmt := topS 9
theorem sc_law_bag : FnScope ["_law_script", "_law_at", "_law_cell", "_law_digits"] ["_law_script", "_law_at"] (defScope s_law_bag) := ⟨rfl, rfl, rfl, by decide +kernel, rfl, by decide +kernel, by decide +kernel⟩
def b_law_bag : Es Γ := mSeq (mSet 2 (mIf (toT (m2 pLt (.brw 1) (.ex (mN (pN1 pLen) [.brw 0])))) (m2 pIx (.brw 0) (.brw 1)) (mC (.int 0))))
    (mSeq (mSet 3 (mIf (toT (m2 pGe (.ex (mN (pN1 pAbs) [.brw 2])) (.ex (m2 pPow (.ex (mC (.int 10))) (.ex (mC (.int 18))))))) (mN (pN1 pAbs) [.brw 2]) (mC (.int 0))))
    (mRet (mN pLstN [.ex (mVar 3), .ex (mFrz (m2 pAdd (.ex (m2 pAdd (.ex (m2 pMul (.ex (m2 pMod (.ex (mN (pN1 pInt) [.brw 2])) (.ex (mC (.int 2305843009213693951))))) (.ex (mC (.int 5))))) (.ex (m2 pMul (.ex (mC (.int 15485863))) (.brw 1))))) (.ex (mC (.int 7001))))), .ex (mC (.int 0))])))
def f_law_bag : Fn Γ := mFun 2 2 [2, 3] b_law_bag
abbrev s_law_take : Stmt := topS 10
theorem sc_law_take : FnScope ["_law_bag_here", "_law_many", "_law_digit", "_law_mixed"] ["_law_bag_here", "_law_many"] (defScope s_law_take) := ⟨rfl, rfl, rfl, by decide +kernel, rfl, by decide +kernel, by decide +kernel⟩
def b_law_take : Es Γ := mSeq (mIfS (toT (m2 pGt (.ex (m2 pIx (.brw 0) (.ex (mC (.int 0))))) (.ex (mC (.int 0))))) (mSeq (mSet 2 (m2 pMod (.ex (mN (pN1 pInt) [.ex (m2 pIx (.brw 0) (.ex (mC (.int 0))))])) (.brw 1)))
    (mSeq (mSetIx 0 (m2 pDiv (.ex (m2 pIx (.brw 0) (.ex (mC (.int 0))))) (.brw 1)) (mC (.int 0)))
    (mRetMv 2))) (mNx))
    (mSeq (mSetIx 0 (mFrz (m2 pAdd (.ex (m2 pIx (.brw 0) (.ex (mC (.int 2))))) (.ex (mC (.int 1))))) (mC (.int 2)))
    (mSeq (mSet 3 (m2 pMod (.ex (mN (pN1 pInt) [.ex (m2 pPow (.ex (m2 pAdd (.ex (m2 pIx (.brw 0) (.ex (mC (.int 1))))) (.ex (m2 pMul (.ex (mC (.int 1299709))) (.ex (m2 pIx (.brw 0) (.ex (mC (.int 2))))))))) (.ex (mC (.int 3))))])) (.ex (mC (.int 2305843009213693921)))))
    (mSeq (mSet 3 (m2 pMod (.ex (mN (pN1 pInt) [.ex (m2 pPow (.ex (m2 pAdd (.brw 3) (.ex (m2 pMul (.ex (mC (.int 49979687))) (.ex (m2 pIx (.brw 0) (.ex (mC (.int 2))))))))) (.ex (mC (.int 2))))])) (.ex (mC (.int 2305843009213693951)))))
    (mRet (m2 pMod (.ex (mN (pN1 pInt) [.ex (m2 pDiv (.brw 3) (.ex (mC (.int 4096))))])) (.brw 1))))))
def f_law_take : Fn Γ := mFun 2 2 [2, 3] b_law_take
abbrev s_law_items : Stmt := topS 11
theorem sc_law_items : FnScope ["_law_bag_here", "_law_many", "_law_found", "_law_turn", "_law_number", "_law_step"] ["_law_bag_here", "_law_many"] (defScope s_law_items) := ⟨rfl, rfl, rfl, by decide +kernel, rfl, by decide +kernel, by decide +kernel⟩
def b_law_items : Es Γ := mSeq (mSet 2 (mN pLstN []))
    (mSeq (mFor (iRng (mVar 1)) (gNm 3)
    (mSeq (mSet 4 (m2 pSub (.ex (mCall 2 f_law_take [.brw 0, .ex (m2 pIx (.ex (mN pLstN [.ex (mC (.int 5)), .ex (mC (.int 12)), .ex (m2 pPow (.ex (mC (.int 10))) (.ex (mC (.int 30))))])) (.ex (mCall 2 f_law_take [.brw 0, .ex (mC (.int 3))])))])) (.ex (m2 pIx (.ex (mN pLstN [.ex (mC (.int 0)), .ex (mC (.int 3)), .ex (m2 pPow (.ex (mC (.int 10))) (.ex (mC (.int 29))))])) (.ex (mCall 2 f_law_take [.brw 0, .ex (mC (.int 3))]))))))
    (mSeq (mFor (iRng (mVar 1)) (gNm 5)
    (mIfS (toT (m2 pIn (.brw 4) (.brw 2))) (mSet 4 (m2 pAdd (.brw 4) (.ex (mC (.int 1))))) (mNx)))
    (mDrop (mMut 2 uAppend [.ex (mVar 4)])))))
    (mRet (mN (pN1 pSorted) [.brw 2])))
def f_law_items : Fn Γ := mFun 2 4 [2, 3, 4, 5] b_law_items
abbrev s_law_parts : Stmt := topS 12
theorem sc_law_parts : FnScope ["_law_items_here", "_law_found", "_law_item", "_law_part", "_law_size"] ["_law_items_here"] (defScope s_law_parts) := ⟨rfl, rfl, rfl, by decide +kernel, rfl, by decide +kernel, by decide +kernel⟩
def b_law_parts : Es Γ := mSeq (mSet 1 (mN pLstN [.ex (mN pTupN [])]))
    (mSeq (mFor (iSeq (mVar 0)) (gNm 2)
    (mSet 1 (m2 pAdd (.brw 1) (.ex (mLc (iSeq (mVar 1)) [3] (gNm 3) (fun env => some (true, env)) (mFrz (m2 pAdd (.brw 3) (.ex (mN pTupN [.ex (mVar 2)])))))))))
    (mRet (mLc (iSeq (mFrz (m1 pSortD (.ex (mLc (iSeq (mVar 1)) [3] (gNm 3) (fun env => some (true, env)) (mN pTupN [.ex (mFrz (mN (pN1 pLen) [.brw 3])), .ex (mVar 3)])))))) [4, 3] (gTp [gNm 4, gNm 3]) (fun env => some (true, env)) (mVar 3))))
def f_law_parts : Fn Γ := mFun 1 4 [1, 2] b_law_parts
abbrev s_law_inside : Stmt := topS 13
theorem sc_law_inside : FnScope ["_law_part", "_law_whole", "_law_item"] ["_law_part", "_law_whole"] (defScope s_law_inside) := ⟨rfl, rfl, rfl, by decide +kernel, rfl, by decide +kernel, by decide +kernel⟩
def b_law_inside : Es Γ := mRet (m2 pEq (.ex (mLc (iSeq (mVar 0)) [2] (gNm 2) (toT (m2 pNotIn (.brw 2) (.brw 1))) (mVar 2))) (.ex (mN pLstN [])))
def f_law_inside : Fn Γ := mFun 2 1 [] b_law_inside
abbrev s_law_least : Stmt := topS 14
theorem sc_law_least : FnScope ["_law_family_here", "_law_found", "_law_one", "_law_other", "_law_size", "_law_part"] ["_law_family_here"] (defScope s_law_least) := ⟨rfl, rfl, rfl, by decide +kernel, rfl, by decide +kernel, by decide +kernel⟩
def b_law_least : Es Γ := mSeq (mSet 1 (mLc (iSeq (mVar 0)) [2] (gNm 2) (toT (m2 pEq (.ex (mLc (iSeq (mVar 0)) [3] (gNm 3) (mAndT (toT (m2 pNe (.brw 3) (.brw 2))) (mT (.ex (mCall 2 f_law_inside [.brw 3, .brw 2])))) (mVar 3))) (.ex (mN pLstN [])))) (mVar 2)))
    (mRet (mLc (iSeq (mFrz (m1 pSortD (.ex (mLc (iSeq (mVar 1)) [5] (gNm 5) (fun env => some (true, env)) (mN pTupN [.ex (mFrz (mN (pN1 pLen) [.brw 5])), .ex (mVar 5)])))))) [4, 5] (gTp [gNm 4, gNm 5]) (fun env => some (true, env)) (mVar 5)))
def f_law_least : Fn Γ := mFun 1 5 [1] b_law_least
abbrev s_law_meets : Stmt := topS 15
theorem sc_law_meets : FnScope ["_law_part", "_law_family_here", "_law_one", "_law_item"] ["_law_part", "_law_family_here"] (defScope s_law_meets) := ⟨rfl, rfl, rfl, by decide +kernel, rfl, by decide +kernel, by decide +kernel⟩
def b_law_meets : Es Γ := mRet (m2 pEq (.ex (mLc (iSeq (mVar 1)) [2] (gNm 2) (toT (m2 pEq (.ex (mLc (iSeq (mVar 2)) [3] (gNm 3) (toT (m2 pIn (.brw 3) (.brw 0))) (mVar 3))) (.ex (mN pLstN [])))) (mVar 2))) (.ex (mN pLstN [])))
def f_law_meets : Fn Γ := mFun 2 2 [] b_law_meets
abbrev s_law_blockers : Stmt := topS 16
theorem sc_law_blockers : FnScope ["_law_items_here", "_law_family_here", "_law_found", "_law_part", "_law_other"] ["_law_items_here", "_law_family_here"] (defScope s_law_blockers) := ⟨rfl, rfl, rfl, by decide +kernel, rfl, by decide +kernel, by decide +kernel⟩
def b_law_blockers : Es Γ := mSeq (mSet 2 (mN pLstN []))
    (mSeq (mFor (iSeq (mFrz (mCall 1 f_law_parts [.brw 0]))) (gNm 3)
    (mIfS (mAndT (mT (.ex (mCall 2 f_law_meets [.brw 3, .brw 1]))) (toT (m2 pEq (.ex (mLendN 2 (mLc (iSeq (mVar 2)) [4] (gNm 4) (mT (.ex (mCall 2 f_law_inside [.brw 4, .brw 3]))) (mVar 4)))) (.ex (mN pLstN []))))) (mDrop (mMut 2 uAppend [.ex (mVar 3)])) (mNx)))
    (mRetMv 2))
def f_law_blockers : Fn Γ := mFun 2 3 [2, 3] b_law_blockers
abbrev s_law_upward : Stmt := topS 17
theorem sc_law_upward : FnScope ["_law_family_here", "_law_items_here", "_law_one", "_law_item"] ["_law_family_here", "_law_items_here"] (defScope s_law_upward) := ⟨rfl, rfl, rfl, by decide +kernel, rfl, by decide +kernel, by decide +kernel⟩
def b_law_upward : Es Γ := mSeq (mFor (iSeq (mVar 0)) (gNm 2)
    (mFor (iSeq (mVar 1)) (gNm 3)
    (mIfS (mAndT (toT (m2 pNotIn (.brw 3) (.brw 2))) (toT (m2 pNotIn (.ex (mN (pN1 pTuple) [.ex (mN (pN1 pSorted) [.ex (m2 pAdd (.ex (mN (pN1 pList) [.brw 2])) (.ex (mN pLstN [.ex (mVar 3)])))])])) (.brw 0)))) (mRet (mC (.bl false))) (mNx))))
    (mRet (mC (.bl true)))
def f_law_upward : Fn Γ := mFun 2 2 [2, 3] b_law_upward
abbrev s_law_family : Stmt := topS 18
theorem sc_law_family : FnScope ["_law_bag_here", "_law_items_here", "_law_parts_here", "_law_chosen", "_law_turn", "_law_one", "_law_part", "_law_found"] ["_law_bag_here", "_law_items_here"] (defScope s_law_family) := ⟨rfl, rfl, rfl, by decide +kernel, rfl, by decide +kernel, by decide +kernel⟩
def b_law_family : Es Γ := mSeq (mPar 2 3 (mCall 1 f_law_parts [.brw 1]) (mN pLstN []))
    (mSeq (mFor (iRng (mCall 2 f_law_take [.brw 0, .ex (mC (.int 7))])) (gNm 4)
    (mSeq (mSet 5 (m2 pIx (.brw 2) (.ex (mCall 2 f_law_take [.brw 0, .ex (mN (pN1 pLen) [.brw 2])]))))
    (mSeq (mIfS (mAndT (toT (m2 pGt (.ex (mCall 2 f_law_take [.brw 0, .ex (mC (.int 4))])) (.ex (mC (.int 0))))) (toT (m2 pEq (.ex (mN (pN1 pLen) [.brw 5])) (.ex (mC (.int 0)))))) (mSet 5 (m2 pIx (.brw 2) (.ex (m1 pNeg (.ex (mC (.int 1))))))) (mNx))
    (mIfS (toT (m2 pNotIn (.brw 5) (.brw 3))) (mDrop (mMut 3 uAppend [.ex (mVar 5)])) (mNx)))))
    (mSeq (mIfS (toT (m2 pEq (.ex (mCall 2 f_law_take [.brw 0, .ex (mC (.int 3))])) (.ex (mC (.int 0))))) (mSet 3 (mLc (iSeq (mVar 2)) [6] (gNm 6) (toT (m2 pNe (.ex (mLc (iSeq (mVar 3)) [5] (gNm 5) (mT (.ex (mCall 2 f_law_inside [.brw 5, .brw 6]))) (mVar 5))) (.ex (mN pLstN [])))) (mVar 6))) (mNx))
    (mSeq (mSet 7 (mN pLstN []))
    (mSeq (mFor (iRng (mN (pN1 pLen) [.brw 3])) (gNm 4)
    (mDrop (mMut 7 uAppend [.ex (mFrz (mMut 3 uPop [.ex (mFrz (mCall 2 f_law_take [.brw 0, .ex (mN (pN1 pLen) [.brw 3])]))]))])))
    (mRetMv 7)))))
def f_law_family : Fn Γ := mFun 2 6 [2, 3, 4, 5, 7] b_law_family
abbrev s_law_right : Stmt := topS 19
theorem sc_law_right : FnScope ["_law_items_here", "_law_family_here", "_law_kept", "_law_least_here", "_law_blocks"] ["_law_items_here", "_law_family_here"] (defScope s_law_right) := ⟨rfl, rfl, rfl, by decide +kernel, rfl, by decide +kernel, by decide +kernel⟩
def b_law_right : Qs Γ := xSeq (xS (mSet 2 (mN (pN1 pList) [.brw 1])))
    (xSeq (xS (mPar 3 4 (mCall 1 f_least_of [.brw 1]) (mCall 1 f_blockers [.brw 1])))
    (xSeq (xS (mIfS (mOrT (toT (m2 pNe (.ex (mN (pN1 pRepr) [.brw 3])) (.ex (mN (pN1 pRepr) [.ex (mCall 1 f_law_least [.brw 2])])))) (toT (m2 pNe (.ex (mN (pN1 pRepr) [.brw 4])) (.ex (mN (pN1 pRepr) [.ex (mCall 2 f_law_blockers [.brw 0, .brw 2])]))))) (mRet (mC (.bl false))) (mNx)))
    (xSeq (xS (mIfS (mOrT (toT (m2 pNe (.ex (mN (pN1 pRepr) [.ex (mCall 2 f_is_upward [.brw 1, .brw 0])])) (.ex (mN (pN1 pRepr) [.ex (mCall 2 f_law_upward [.brw 2, .brw 0])])))) (toT (m2 pNe (.brw 1) (.brw 2)))) (mRet (mC (.bl false))) (mNx)))
    (xSeq (xS (mIfS (toT (m2 pNe (.ex (mN (pN1 pRepr) [.ex (mCall 1 f_blockers [.brw 4])])) (.ex (mN (pN1 pRepr) [.brw 3])))) (mRet (mC (.bl false))) (mNx)))
    (xSeq (xS (mDrop (mMut 3 uAppend [.ex (mN pTupN [])])))
    (xSeq (xS (mDrop (mMut 4 uClear [])))
    (xS (mRet (mAndV (m2 pEq (.ex (mN (pN1 pRepr) [.ex (mCall 1 f_least_of [.brw 1])])) (.ex (mN (pN1 pRepr) [.ex (mCall 1 f_law_least [.brw 2])]))) (m2 pEq (.ex (mN (pN1 pRepr) [.ex (mCall 1 f_blockers [.brw 1])])) (.ex (mN (pN1 pRepr) [.ex (mCall 2 f_law_blockers [.brw 0, .brw 2])]))))))))))))
def g_law_right : Fx Γ := xFun 2 3 [2, 3, 4] b_law_right
abbrev s_law : Stmt := topS 20
theorem sc_law : FnScope ["_law_script", "_law_at", "_law_bag_here", "_law_items_here", "_law_part", "_law_family_here"] ["_law_script"] (defScope s_law) := ⟨rfl, rfl, rfl, by decide +kernel, rfl, by decide +kernel, by decide +kernel⟩
def b_law : Qs Γ := xSeq (xFor (xI (iRng (mN (pN2 pMax2) [.ex (mC (.int 1)), .ex (mN (pN2 pMin2) [.ex (mC (.int 4)), .ex (mN (pN1 pLen) [.brw 0])])]))) (gNm 1)
    (xSeq (xS (mSet 2 (mCall 2 f_law_bag [.brw 0, .brw 1])))
    (xSeq (xS (mSet 3 (mN (pN1 pTuple) [.ex (mCall 2 f_law_items [.brw 2, .ex (mIf (toT (m2 pEq (.ex (mCall 2 f_law_take [.brw 2, .ex (mC (.int 8))])) (.ex (mC (.int 3))))) (mC (.int 6)) (mCall 2 f_law_take [.brw 2, .ex (mC (.int 6))]))])])))
    (xSeq (xIfS (xT (xN 0 (pN2 pNe) [.ex (xN 0 (pN1 pRepr) [.ex (xLcG x_subsets [.brw 3])]), .ex (xE (mN (pN1 pRepr) [.ex (mCall 1 f_law_parts [.brw 3])]))])) (xS (mRet (mC (.bl false)))) (xNx))
    (xSeq (xS (mSet 5 (mCall 2 f_law_family [.brw 2, .brw 3])))
    (xIfS (xOrT (xNotT (xTru 0 (.ex (xCall 2 g_law_right [.brw 3, .brw 5])))) (xNotT (xTru 0 (.ex (xCall 2 g_law_right [.brw 3, .ex (xE (m1 pRev (.brw 5)))]))))) (xS (mRet (mC (.bl false)))) (xNx)))))))
    (xS (mRet (mC (.bl true))))
def g_law : Fx Γ := xFun 1 5 [1, 2, 3, 5] b_law
end
end K

set_option maxHeartbeats 4000000
namespace K
open PySem L2 G
section
variable {Γ : Gam}
theorem seq_nx {f g : Es Γ} {env e1 : Env Γ} (h : f env = some (.nx, e1)) : mSeq f g env = g e1 := by unfold mSeq; rw [h]
theorem set_eq {i : Nat} {f : Ev Γ} {env e1 : Env Γ} {s : Sl Γ} (h : f env = some (s, e1)) (hi : i < e1.length) : mSet i f env = some (.nx, e1.set i s) := by unfold mSet; rw [h]; exact if_pos hi
theorem par_eq {i j : Nat} {f g : Ev Γ} {env e1 e2 : Env Γ} {s t : Sl Γ} (h : f env = some (s, e1)) (h' : g e1 = some (t, e2)) (hi : i < e2.length) (hj : j < e2.length) : mPar i j f g env = some (.nx, (e2.set i s).set j t) := by unfold mPar; rw [h]; simp only [h']; exact if_pos ⟨hi, hj⟩
theorem ifs_t {c : Et Γ} {f g : Es Γ} {env e1 : Env Γ} (h : c env = some (true, e1)) : mIfS c f g env = f e1 := by unfold mIfS; rw [h]
theorem ifs_f {c : Et Γ} {f g : Es Γ} {env e1 : Env Γ} (h : c env = some (false, e1)) : mIfS c f g env = g e1 := by unfold mIfS; rw [h]
theorem ret_eq {f : Ev Γ} {env e1 : Env Γ} {s : Sl Γ} (h : f env = some (s, e1)) : mRet f env = some (.rt s, e1) := by unfold mRet; rw [h]; rfl
theorem for_eq {fi : Ei Γ} {t : Eg Γ} {g : Es Γ} {env e1 e2 : Env Γ} {ds : List G.D} {fl : Fl Γ} (h : fi env = some (ds, e1)) (h' : forL t g ds e1 = some (fl, e2)) : mFor fi t g env = some (fl, e2) := by unfold mFor; rw [h]; exact h'
theorem frz_dat {f : Ev Γ} {env e1 : Env Γ} {d : G.D} (h : f env = some (.dat d, e1)) : mFrz f env = some (.dat d, e1) := by unfold mFrz; rw [h]
theorem frz_lst {f : Ev Γ} {env e1 : Env Γ} {ds : List G.D} (h : f env = some (.lst ds, e1)) : mFrz f env = some (.dat (.lst ds), e1) := by unfold mFrz; rw [h]
theorem fun_rt {np loc : Nat} {A : List Nat} {body : Es Γ} {args e' : Env Γ} {s : Sl Γ} (h1 : args.length = np) (h2 : ((A.filter (· < np)).all fun i => match args[i]? with | some s => nonOwn s | none => true) = true) (hb : body (args ++ List.replicate loc .none) = some (.rt s, e')) :
    mFun np loc A body args = some (s, backE args (e'.take np) (A.filter (· < np))) := by unfold mFun; rw [if_pos ⟨h1, h2⟩, hb]
theorem m1_ex {p : Sl Γ → Option (Sl Γ)} {f : Ev Γ} {env e1 : Env Γ} {s u : Sl Γ} (h1 : f env = some (s, e1)) (h3 : p s = some u) : m1 p (.ex f) env = some (u, e1) := by
  simp only [m1, evA, h1, Option.map_some, peek, h3]
theorem m2_ex {p : Sl Γ → Sl Γ → Option (Sl Γ)} {f g : Ev Γ} {env e1 e2 : Env Γ} {s t u : Sl Γ} (h1 : f env = some (s, e1)) (h2 : g e1 = some (t, e2)) (h3 : p s t = some u) : m2 p (.ex f) (.ex g) env = some (u, e2) := by
  simp only [m2, evA, h1, h2, Option.map_some, peek, h3]
theorem lc_eq {fi : Ei Γ} {vs : List Nat} {t : Eg Γ} {tc : Et Γ} {f : Ev Γ} {env e1 e2 e3 : Env Γ} {ds ys : List G.D} (h1 : fi env = some (ds, e1)) (hl : ds.length ≤ sizeLine) (h2 : wipeE vs e1 = some e2) (h3 : compL vs t tc f ds e2 = some (ys, e3)) : mLc fi vs t tc f env = some (.lst ys, backE e1 e3 vs) := by
  unfold mLc
  rw [h1]
  simp only [h2, h3, if_pos hl]
theorem call_b1 {f : Fn Γ} {env : Env Γ} {b : Nat} {s s' r : Sl Γ} (hb : env[b]? = some s) (ho : nonOwn s = false) (he : f [s] = some (r, [s'])) : mCall 1 f [.brw b] env = some (r, env.set b s') := by
  have g : got (some s) = some s := by cases s <;> first | rfl | cases ho
  simp [mCall, evAs, evA, hb, g, takeA, ho, he, putA]
theorem call_b2 {f : Fn Γ} {env : Env Γ} {b : Nat} {s s' r x x' : Sl Γ} {fm : Ev Γ} (hb : env[b]? = some s) (ho : nonOwn s = false) (hm : fm env = some (x, env)) (he : f [s, x] = some (r, [s', x'])) : mCall 2 f [.brw b, .ex fm] env = some (r, env.set b s') := by
  have g : got (some s) = some s := by cases s <;> first | rfl | cases ho
  simp [mCall, evAs, evA, hb, g, takeA, ho, hm, he, putA]
theorem okD_int (i : Int) : okD (.int i) = true := by simp [okD, D.toPy, SeqAt.shaped, PyData.canLay0, PyData.depth]
theorem okD_bl (b : Bool) : okD (.bl b) = true := by simp [okD, D.toPy, SeqAt.shaped, PyData.canLay0, PyData.depth]
theorem okD_non : okD .non = true := by simp [okD, D.toPy, SeqAt.shaped, PyData.canLay0, PyData.depth]
theorem okD_str {x : Str} (h : PyData.strOk x = true) : okD (.str x) = true := by simp [okD, D.toPy, SeqAt.shaped, PyData.canLay0, PyData.depth, h]
theorem eqD_int (i j : Int) : eqD (.int i) (.int j) = decide (i = j) := by simp [eqD, D.toPy, PyData.eqv]; rw [Bool.beq_eq_decide_eq]
theorem eqD_str (i j : Str) : eqD (.str i) (.str j) = decide (i = j) := by simp [eqD, D.toPy, PyData.eqv]; rw [Bool.beq_eq_decide_eq]
theorem eqD_bl (i j : Bool) : eqD (.bl i) (.bl j) = decide (i = j) := by simp [eqD, D.toPy, PyData.eqv]; rw [Bool.beq_eq_decide_eq]
theorem okD_ints (ns : List Int) : okD (.lst (ns.map G.D.int)) = true := by
  have h : PyData.canLayAll0 (D.toPys (ns.map G.D.int)) = true ∧ PyData.depthAll (D.toPys (ns.map G.D.int)) = 0 := by
    induction ns with
    | nil => exact ⟨rfl, rfl⟩
    | cons n ns ih =>
      rw [List.map_cons]
      unfold D.toPys
      simp [PyData.canLayAll0, PyData.depthAll, D.toPy, PyData.canLay0, PyData.depth, ih.1, ih.2]
  simp [okD, D.toPy, SeqAt.shaped, PyData.canLay0, PyData.depth, h.1, h.2]
theorem any_int (ns : List Int) (n : Int) : ((ns.map G.D.int).any fun z => eqD z (.int n)) = decide (n ∈ ns) := by
  induction ns with
  | nil => rfl
  | cons m ns ih =>
    rw [List.map_cons, List.any_cons, ih, eqD_int]
    by_cases e : m = n
    · simp [e]
    · have e' : ¬ n = m := fun z => e z.symm
      simp [e, e']
/-- the bag of draws -/
def bag (i j k : Int) : Sl Γ := .lst [.int i, .int j, .int k]
def isBag (N : Nat) (s : Sl Γ) : Prop := ∃ i j k, s = bag i j k ∧ 0 ≤ j ∧ j ≤ 12000000000000000000 ∧ 0 ≤ k ∧ k ≤ N
theorem isBag.mono {N M : Nat} {s : Sl Γ} (h : isBag N s) (l : N ≤ M) : isBag M s := by
  obtain ⟨i, j, k, e, h1, h2, h3, h4⟩ := h
  exact ⟨i, j, k, e, h1, h2, h3, by omega⟩
theorem eval_take {N : Nat} (hN : N < 1000000) (i j k m : Int) (j0 : 0 ≤ j) (j1 : j ≤ 12000000000000000000) (k0 : 0 ≤ k) (k1 : k ≤ N) (h0 : 0 < m) (h1 : m < 2 ^ 200) :
    ∃ r s', 0 ≤ r ∧ r < m ∧ isBag (N + 1) s' ∧ f_law_take (Γ := Γ) [bag i j k, .dat (.int m)] = some (.dat (.int r), [s', .dat (.int m)]) := by
  have h1' := h1
  simp at h1'
  by_cases hi : 0 < i
  · refine ⟨i % m, bag (i / m) j k, Int.emod_nonneg _ (by omega), Int.emod_lt_of_pos _ h0, ⟨_, _, _, rfl, j0, j1, k0, by omega⟩, ?_⟩
    simp [mFun, mSeq, mIfS, toT, m1, m2, mN, evA, evAs, got, peek, peeks, pEq, pNe, pEqG, pLt, pLe, pGt, pGe, pOrd, pIx, Sl.view, mC, mVar, mRet, mNx, mSet, mDrop, mNotT, mNotE, mNotV, mAndT, mOrT, mAndV, mOrV, mIf, mT, truth, db, di, atI, ixN, okD_int, okD_bl, okD_non, eqD_int, eqD_str, eqD_bl, nonOwn, backE, List.replicate, mRetMv, mQ, evQ, getP, Fd.sl, pTupN, allDat, pN1, pN2, pI, cMod, cMul, cDiv, cPow, pMod, pMul, pDiv, pPow, pAdd, pSub, p0, pInt, pLen, mFrz, f_law_take, b_law_take, bag, hi, h0, mSetIx, h1']
  · generalize e1 : (j + 1299709 * (k + 1)) ^ 3 % 2305843009213693921 = q
    have q0 : 0 ≤ q := by rw [← e1]; exact Int.emod_nonneg _ (by omega)
    have q1 : q < 2305843009213693921 := by rw [← e1]; exact Int.emod_lt_of_pos _ (by omega)
    have p1 : (j + 1299709 * (k + 1)).natAbs < 18446744073709551616 := by omega
    have p2 : (q + 49979687 * (k + 1)).natAbs < 18446744073709551616 := by omega
    refine ⟨(q + 49979687 * (k + 1)) ^ 2 % 2305843009213693951 / 4096 % m, bag i j (k + 1), Int.emod_nonneg _ (by omega), Int.emod_lt_of_pos _ h0, ⟨_, _, _, rfl, j0, j1, by omega, by omega⟩, ?_⟩
    simp [mFun, mSeq, mIfS, toT, m1, m2, mN, evA, evAs, got, peek, peeks, pEq, pNe, pEqG, pLt, pLe, pGt, pGe, pOrd, pIx, Sl.view, mC, mVar, mRet, mNx, mSet, mDrop, mNotT, mNotE, mNotV, mAndT, mOrT, mAndV, mOrV, mIf, mT, truth, db, di, atI, ixN, okD_int, okD_bl, okD_non, eqD_int, eqD_str, eqD_bl, nonOwn, backE, List.replicate, mRetMv, mQ, evQ, getP, Fd.sl, pTupN, allDat, pN1, pN2, pI, cMod, cMul, cDiv, cPow, pMod, pMul, pDiv, pPow, pAdd, pSub, p0, pInt, pLen, mFrz, f_law_take, b_law_take, bag, hi, h0, mSetIx, h1', p1, p2, e1]
theorem call_take {N : Nat} {env : Env Γ} {b : Nat} {s : Sl Γ} {m : Int} {fm : Ev Γ} (hb : env[b]? = some s) (hs : isBag N s) (hN : N < 1000000) (hm : fm env = some (.dat (.int m), env)) (h0 : 0 < m) (h1 : m < 2 ^ 200) :
    ∃ r s', 0 ≤ r ∧ r < m ∧ isBag (N + 1) s' ∧ mCall 2 f_law_take [.brw b, .ex fm] env = some (.dat (.int r), env.set b s') := by
  obtain ⟨i, j, k, rfl, j0, j1, k0, k1⟩ := hs
  obtain ⟨r, s', r0, r1, h, e⟩ := eval_take (Γ := Γ) hN i j k m j0 j1 k0 k1 h0 h1
  exact ⟨r, s', r0, r1, h, call_b2 hb rfl hm e⟩
theorem take_c {N : Nat} {env : Env Γ} {b : Nat} {s : Sl Γ} (hb : env[b]? = some s) (hs : isBag N s) (hN : N < 1000000) (m : Int) (h0 : 0 < m) (h1 : m < 2 ^ 200) :
    ∃ r s', 0 ≤ r ∧ r < m ∧ isBag (N + 1) s' ∧ mCall 2 f_law_take [.brw b, .ex (mC (.int m))] env = some (.dat (.int r), env.set b s') := call_take hb hs hN rfl h0 h1
end
end K

set_option maxHeartbeats 400000
namespace Fam
abbrev P := List Int
def lexle : P → P → Bool
  | [], _ => true
  | _ :: _, [] => false
  | a :: p, b :: q => decide (a < b) || (decide (a = b) && lexle p q)
/-- told order -/
def tle (p q : P) : Bool := decide (p.length < q.length) || (decide (p.length = q.length) && lexle p q)
theorem lex_total : ∀ p q : P, (lexle p q || lexle q p) = true
  | [], q => by simp [lexle]
  | a :: p, [] => by simp [lexle]
  | a :: p, b :: q => by
    have := lex_total p q
    simp only [lexle, Bool.or_eq_true, Bool.and_eq_true, decide_eq_true_eq] at *
    rcases Int.lt_trichotomy a b with h | h | h
    · exact .inl (.inl h)
    · rcases this with t | t
      · exact .inl (.inr ⟨h, t⟩)
      · exact .inr (.inr ⟨h.symm, t⟩)
    · exact .inr (.inl h)
theorem lex_trans : ∀ p q r : P, lexle p q = true → lexle q r = true → lexle p r = true
  | [], _, _, _, _ => by simp [lexle]
  | _ :: _, [], _, h, _ => by simp [lexle] at h
  | _ :: _, _ :: _, [], _, h => by simp [lexle] at h
  | a :: p, b :: q, c :: r, h1, h2 => by
    simp only [lexle, Bool.or_eq_true, Bool.and_eq_true, decide_eq_true_eq] at *
    rcases h1 with h1 | ⟨h1, t1⟩ <;> rcases h2 with h2 | ⟨h2, t2⟩
    · exact .inl (by omega)
    · exact .inl (by omega)
    · exact .inl (by omega)
    · exact .inr ⟨by omega, lex_trans p q r t1 t2⟩
theorem lex_anti : ∀ p q : P, lexle p q = true → lexle q p = true → p = q
  | [], [], _, _ => rfl
  | [], _ :: _, _, h => by simp [lexle] at h
  | _ :: _, [], h, _ => by simp [lexle] at h
  | a :: p, b :: q, h1, h2 => by
    simp only [lexle, Bool.or_eq_true, Bool.and_eq_true, decide_eq_true_eq] at *
    rcases h1 with h1 | ⟨h1, t1⟩ <;> rcases h2 with h2 | ⟨h2, t2⟩
    · omega
    · omega
    · omega
    · rw [h1, lex_anti p q t1 t2]
theorem tle_iff {p q : P} : tle p q = true ↔ p.length < q.length ∨ (p.length = q.length ∧ lexle p q = true) := by
  unfold tle
  simp only [Bool.or_eq_true, Bool.and_eq_true, decide_eq_true_eq]
theorem tle_total (p q : P) : (tle p q || tle q p) = true := by
  have := lex_total p q
  rw [Bool.or_eq_true] at *
  rw [tle_iff, tle_iff]
  rcases Nat.lt_trichotomy p.length q.length with h | h | h
  · exact .inl (.inl h)
  · rcases this with t | t
    · exact .inl (.inr ⟨h, t⟩)
    · exact .inr (.inr ⟨h.symm, t⟩)
  · exact .inr (.inl h)
theorem tle_trans (p q r : P) (h1 : tle p q = true) (h2 : tle q r = true) : tle p r = true := by
  rw [tle_iff] at *
  rcases h1 with h1 | ⟨h1, t1⟩ <;> rcases h2 with h2 | ⟨h2, t2⟩
  · exact .inl (by omega)
  · exact .inl (by omega)
  · exact .inl (by omega)
  · exact .inr ⟨by omega, lex_trans p q r t1 t2⟩
theorem tle_anti {p q : P} (h1 : tle p q = true) (h2 : tle q p = true) : p = q := by
  rw [tle_iff] at *
  rcases h1 with h1 | ⟨h1, t1⟩ <;> rcases h2 with h2 | ⟨h2, t2⟩
  · omega
  · omega
  · omega
  · exact lex_anti p q t1 t2
/-- strictly ascending in told order -/
def TS (l : List P) : Prop := l.Pairwise fun p q => tle p q = true ∧ p ≠ q
theorem ts_ext : ∀ {l m : List P}, TS l → TS m → (∀ x, x ∈ l ↔ x ∈ m) → l = m
  | [], [], _, _, _ => rfl
  | [], b :: m, _, _, h => by have := (h b).mpr List.mem_cons_self; cases this
  | a :: l, [], _, _, h => by have := (h a).mp List.mem_cons_self; cases this
  | a :: l, b :: m, hl, hm, h => by
    obtain ⟨l1, l2⟩ := List.pairwise_cons.mp hl
    obtain ⟨m1, m2⟩ := List.pairwise_cons.mp hm
    have e : a = b := by
      rcases List.mem_cons.mp ((h a).mp List.mem_cons_self) with z | z
      · exact z
      · rcases List.mem_cons.mp ((h b).mpr List.mem_cons_self) with y | y
        · exact y.symm
        · exact tle_anti (l1 b y).1 (m1 a z).1
    subst e
    refine congrArg _ (ts_ext l2 m2 fun x => ?_)
    constructor
    · intro hx
      rcases List.mem_cons.mp ((h x).mp (List.mem_cons_of_mem _ hx)) with z | z
      · exact absurd z.symm (l1 x hx).2
      · exact z
    · intro hx
      rcases List.mem_cons.mp ((h x).mpr (List.mem_cons_of_mem _ hx)) with z | z
      · exact absurd z.symm (m1 x hx).2
      · exact z
theorem ts_sort {l : List P} (h : l.Nodup) : TS (l.mergeSort tle) := by
  have s := List.pairwise_mergeSort (le := tle) tle_trans tle_total l
  have n : (l.mergeSort tle).Nodup := (List.mergeSort_perm l tle).nodup_iff.mpr h
  exact s.and (List.nodup_iff_pairwise_ne.mp n)
/-- an ascending list of numbers -/
def Up (p : P) : Prop := p.Pairwise (· < ·)
def sub (p q : P) : Prop := ∀ x ∈ p, x ∈ q
def subB (p q : P) : Bool := p.all fun x => decide (x ∈ q)
theorem subB_iff {p q : P} : subB p q = true ↔ sub p q := by
  unfold subB sub
  rw [List.all_eq_true]
  exact ⟨fun h x hx => of_decide_eq_true (h x hx), fun h x hx => decide_eq_true (h x hx)⟩
theorem up_ext : ∀ {p q : P}, Up p → Up q → (∀ x, x ∈ p ↔ x ∈ q) → p = q
  | [], [], _, _, _ => rfl
  | [], b :: m, _, _, h => by have := (h b).mpr List.mem_cons_self; cases this
  | a :: l, [], _, _, h => by have := (h a).mp List.mem_cons_self; cases this
  | a :: l, b :: m, hl, hm, h => by
    obtain ⟨l1, l2⟩ := List.pairwise_cons.mp hl
    obtain ⟨m1, m2⟩ := List.pairwise_cons.mp hm
    have e : a = b := by
      rcases List.mem_cons.mp ((h a).mp List.mem_cons_self) with z | z
      · exact z
      · rcases List.mem_cons.mp ((h b).mpr List.mem_cons_self) with y | y
        · exact y.symm
        · have := l1 b y
          have := m1 a z
          omega
    subst e
    refine congrArg _ (up_ext l2 m2 fun x => ?_)
    constructor
    · intro hx
      rcases List.mem_cons.mp ((h x).mp (List.mem_cons_of_mem _ hx)) with z | z
      · have := l1 x hx; omega
      · exact z
    · intro hx
      rcases List.mem_cons.mp ((h x).mpr (List.mem_cons_of_mem _ hx)) with z | z
      · have := m1 x hx; omega
      · exact z
theorem sub_anti {p q : P} (hp : Up p) (hq : Up q) (h1 : sub p q) (h2 : sub q p) : p = q := up_ext hp hq fun x => ⟨h1 x, h2 x⟩
theorem up_nodup {p : P} (h : Up p) : p.Nodup := List.nodup_iff_pairwise_ne.mpr (h.imp fun h => by omega)
theorem sub_len : ∀ {p q : P}, p.Nodup → sub p q → p.length ≤ q.length
  | [], _, _, _ => Nat.zero_le _
  | a :: p, q, hn, h => by
    obtain ⟨n1, n2⟩ := List.nodup_cons.mp hn
    have ha := h a List.mem_cons_self
    have e : (q.erase a).length = q.length - 1 := List.length_erase_of_mem ha
    have := sub_len (q := q.erase a) n2 fun x hx => (List.mem_erase_of_ne (by rintro rfl; exact n1 hx)).mpr (h x (List.mem_cons_of_mem _ hx))
    have : 0 < q.length := List.length_pos_of_mem ha
    rw [List.length_cons]
    omega
/-- a part that is not all of it is shorter -/
theorem sub_lt {p q : P} (hp : Up p) (hq : Up q) (h : sub p q) (hne : p ≠ q) : p.length < q.length := by
  have l := sub_len (up_nodup hp) h
  refine Nat.lt_of_le_of_ne l fun e => hne (sub_anti hp hq h fun x hx => ?_)
  refine Classical.byContradiction fun hn => ?_
  have := sub_len (p := x :: p) (q := q) (List.nodup_cons.mpr ⟨hn, up_nodup hp⟩) fun y hy => by
    rcases List.mem_cons.mp hy with z | z
    · rw [z]; exact hx
    · exact h y z
  rw [List.length_cons] at this
  omega
/-- a least member -/
def Mn (F : List P) (m : P) : Prop := m ∈ F ∧ ∀ f ∈ F, sub f m → f = m
theorem mn_below {F : List P} (hu : ∀ f ∈ F, Up f) : ∀ (k : Nat) {m : P}, m ∈ F → m.length ≤ k → ∃ f, Mn F f ∧ sub f m
  | 0, m, hm, hk => ⟨m, ⟨hm, fun f hf hs => by
      have := sub_len (up_nodup (hu f hf)) hs
      have e1 : m = [] := List.length_eq_zero_iff.mp (by omega)
      have e2 : f = [] := List.length_eq_zero_iff.mp (by omega)
      rw [e1, e2]⟩, fun x hx => hx⟩
  | k + 1, m, hm, hk => by
    by_cases h : Mn F m
    · exact ⟨m, h, fun x hx => hx⟩
    · obtain ⟨f, hf, hs, hne⟩ : ∃ f ∈ F, sub f m ∧ f ≠ m := Classical.byContradiction fun z => h ⟨hm, fun f hf hs => Classical.byContradiction fun hne => z ⟨f, hf, hs, hne⟩⟩
      have := sub_lt (hu f hf) (hu m hm) hs hne
      obtain ⟨g, hg, gs⟩ := mn_below hu k hf (by omega)
      exact ⟨g, hg, fun x hx => hs x (gs x hx)⟩
/-- the program's loop -/
def lst1 : List P → List P → List P
  | found, [] => found
  | found, m :: ms => lst1 (if (found.map fun f => subB f m).any id = true then found else found ++ [m]) ms
def least (F : List P) : List P := lst1 [] (F.mergeSort tle)
theorem lst1_spec {F : List P} (hu : ∀ f ∈ F, Up f) : ∀ (ms pre found : List P), (∀ x, x ∈ pre ++ ms ↔ x ∈ F) → (pre ++ ms).Pairwise (fun p q => tle p q = true) → TS found → (∀ x, x ∈ found ↔ x ∈ pre ∧ Mn F x) → TS (lst1 found ms) ∧ ∀ x, x ∈ lst1 found ms ↔ Mn F x
  | [], pre, found, hF, _, hT, hf => by
    refine ⟨hT, fun x => ?_⟩
    show x ∈ found ↔ _
    rw [hf x]
    exact ⟨fun h => h.2, fun h => ⟨by have := (hF x).mpr h.1; rwa [List.append_nil] at this, h⟩⟩
  | m :: ms, pre, found, hF, hS, hT, hf => by
    have mF : m ∈ F := (hF m).mp (List.mem_append_right _ List.mem_cons_self)
    have e : pre ++ m :: ms = (pre ++ [m]) ++ ms := by simp
    have anyB : (found.map fun f => subB f m).any id = true ↔ ∃ f ∈ found, sub f m := by
      rw [List.any_map, List.any_eq_true]
      exact ⟨fun ⟨f, h1, h2⟩ => ⟨f, h1, subB_iff.mp h2⟩, fun ⟨f, h1, h2⟩ => ⟨f, h1, subB_iff.mpr h2⟩⟩
    obtain ⟨s1, s2, s3⟩ := List.pairwise_append.mp hS
    unfold lst1
    by_cases h : ∃ f ∈ found, sub f m
    · rw [if_pos (anyB.mpr h)]
      obtain ⟨f, hff, hs⟩ := h
      refine lst1_spec hu ms (pre ++ [m]) found (by rw [← e]; exact hF) (by rw [← e]; exact hS) hT fun x => ?_
      rw [hf x, List.mem_append, List.mem_singleton]
      refine ⟨fun ⟨h1, h2⟩ => ⟨.inl h1, h2⟩, fun ⟨h1, h2⟩ => ⟨?_, h2⟩⟩
      rcases h1 with z | z
      · exact z
      · subst z
        have := h2.2 f ((hf f).mp hff).2.1 hs
        rw [← this]
        exact ((hf f).mp hff).1
    · rw [if_neg fun z => h (anyB.mp z)]
      have hm : Mn F m := ⟨mF, fun g hg hs => Classical.byContradiction fun hne => by
        obtain ⟨q, hq, qs⟩ := mn_below hu g.length hg (Nat.le_refl _)
        have qm : q.length < m.length := by
          have := sub_lt (hu g hg) (hu m mF) hs hne
          have := sub_len (up_nodup (hu q hq.1)) qs
          omega
        rcases List.mem_append.mp ((hF q).mpr hq.1) with z | z
        · exact h ⟨q, (hf q).mpr ⟨z, hq⟩, fun x hx => hs x (qs x hx)⟩
        · rcases List.mem_cons.mp z with y | y
          · rw [y] at qm; omega
          · have t := (List.pairwise_cons.mp s2).1 q y
            rw [tle_iff] at t
            rcases t with t | t <;> omega⟩
      refine lst1_spec hu ms (pre ++ [m]) (found ++ [m]) (by rw [← e]; exact hF) (by rw [← e]; exact hS) ?_ fun x => ?_
      · refine List.pairwise_append.mpr ⟨hT, List.pairwise_singleton _ _, fun f hff y hy => ?_⟩
        rw [List.mem_singleton.mp hy]
        refine ⟨s3 f ((hf f).mp hff).1 m List.mem_cons_self, fun z => h ⟨f, hff, by rw [z]; exact fun x hx => hx⟩⟩
      · rw [List.mem_append, List.mem_append, List.mem_singleton, hf x]
        constructor
        · rintro (⟨h1, h2⟩ | h1)
          · exact ⟨.inl h1, h2⟩
          · subst h1; exact ⟨.inr rfl, hm⟩
        · rintro ⟨h1 | h1, h2⟩
          · exact .inl ⟨h1, h2⟩
          · exact .inr h1
theorem least_spec {F : List P} (hu : ∀ f ∈ F, Up f) : TS (least F) ∧ ∀ x, x ∈ least F ↔ Mn F x := by
  refine lst1_spec hu (F.mergeSort tle) [] [] (fun x => ?_) ?_ List.Pairwise.nil fun x => ?_
  · rw [List.nil_append]
    exact (List.mergeSort_perm F tle).mem_iff
  · rw [List.nil_append]
    exact List.pairwise_mergeSort (le := tle) tle_trans tle_total F
  · exact ⟨fun h => (by cases h), fun h => (by cases h.1)⟩
/-- the law's least members -/
def lawLeast (F : List P) : List P := (F.filter fun one => decide ((F.filter fun other => decide (other ≠ one) && subB other one) = [])).mergeSort tle
theorem law_least {F : List P} (hu : ∀ f ∈ F, Up f) (hn : F.Nodup) : lawLeast F = least F := by
  obtain ⟨h1, h2⟩ := least_spec hu
  refine ts_ext (ts_sort (hn.sublist List.filter_sublist)) h1 fun x => ?_
  unfold lawLeast
  rw [h2 x, (List.mergeSort_perm _ tle).mem_iff, List.mem_filter, decide_eq_true_iff, List.filter_eq_nil_iff]
  constructor
  · rintro ⟨a, b⟩
    refine ⟨a, fun f hf hs => Classical.byContradiction fun hne => b f hf ?_⟩
    rw [decide_eq_true hne, subB_iff.mpr hs]
    rfl
  · rintro ⟨a, b⟩
    refine ⟨a, fun f hf z => ?_⟩
    rw [Bool.and_eq_true, decide_eq_true_iff] at z
    exact z.1 (b f hf (subB_iff.mp z.2))
end Fam

set_option maxHeartbeats 400000
namespace Fam
open G
/-- shares a number with each member -/
def Hits (S : P) (F : List P) : Prop := ∀ f ∈ F, ∃ x ∈ f, x ∈ S
/-- a least ascending list that hits -/
def MH (F : List P) (t : P) : Prop := Up t ∧ Hits t F ∧ ∀ s, Up s → Hits s F → sub s t → s = t
def shr (one other : P) : Bool := (one.map fun x => decide (x ∈ other)).any id
theorem shr_iff {p q : P} : shr p q = true ↔ ∃ x ∈ q, x ∈ p := by
  unfold shr
  rw [List.any_map, List.any_eq_true]
  exact ⟨fun ⟨x, h1, h2⟩ => ⟨x, of_decide_eq_true h2, h1⟩, fun ⟨x, h1, h2⟩ => ⟨x, h2, decide_eq_true h1⟩⟩
/-- ascending -/
def srt (p : P) : P := G.sortI p
theorem srt_mem {p : P} {x : Int} : x ∈ srt p ↔ x ∈ p := (G.sortBy_perm G.ltI p).mem_iff
theorem srt_up {ns : List Int} (h : ns.Nodup) : Up (srt ns) := by
  have nd : (sortI ns).Nodup := (sortBy_perm ltI ns).nodup_iff.mpr h
  have as := sortBy_asc strictI ns
  have h1 : (sortI ns).Pairwise fun x y => x ≠ y := List.nodup_iff_pairwise_ne.mp nd
  have as : (sortI ns).Pairwise fun x y => ltI y x = false := as
  refine (h1.and as).imp fun {a b} h => ?_
  have := h.2
  unfold ltI at this
  simp at this
  have := h.1
  omega
theorem mh_below {F : List P} : ∀ (k : Nat) {S : P}, Up S → Hits S F → S.length ≤ k → ∃ t, MH F t ∧ sub t S
  | 0, S, hu, h, hk => by
    have e1 : S = [] := List.length_eq_zero_iff.mp (by omega)
    subst e1
    refine ⟨[], ⟨hu, h, fun s _ _ hs => ?_⟩, fun x hx => hx⟩
    cases s with
    | nil => rfl
    | cons a s => have := hs a List.mem_cons_self; cases this
  | k + 1, S, hu, h, hk => by
    by_cases hm : MH F S
    · exact ⟨S, hm, fun x hx => hx⟩
    · obtain ⟨s, h1, h2, h3, h4⟩ : ∃ s, Up s ∧ Hits s F ∧ sub s S ∧ s ≠ S := Classical.byContradiction fun z => hm ⟨hu, h, fun s h1 h2 h3 => Classical.byContradiction fun h4 => z ⟨s, h1, h2, h3, h4⟩⟩
      have := sub_lt h1 hu h3 h4
      obtain ⟨t, ht, ts⟩ := mh_below k h1 h2 (by omega)
      exact ⟨t, ht, fun x hx => h3 x (ts x hx)⟩
/-- one member more -/
def grow (found : List P) (m : P) : List P := found.filter (fun row => shr row m) ++ (found.filter fun row => !shr row m).flatMap fun row => m.map fun x => srt (row ++ [x])
def step (found : List P) (m : P) : List P := least (grow found m)
theorem grow_up {found : List P} {m : P} (hu : ∀ f ∈ found, Up f) : ∀ g ∈ grow found m, Up g := fun g hg => by
  rcases List.mem_append.mp hg with z | z
  · exact hu g (List.mem_filter.mp z).1
  · obtain ⟨row, hr, hx⟩ := List.mem_flatMap.mp z
    obtain ⟨x, xm, rfl⟩ := List.mem_map.mp hx
    obtain ⟨hr, ns⟩ := List.mem_filter.mp hr
    refine srt_up (List.nodup_append.mpr ⟨up_nodup (hu row hr), by simp, fun a ha b hb e => ?_⟩)
    rw [List.mem_singleton.mp hb] at e
    have : shr row m = true := shr_iff.mpr ⟨x, xm, by rw [← e]; exact ha⟩
    rw [this] at ns
    cases ns
/-- Berge's step -/
theorem step_spec {F found : List P} {m : P} (hu : ∀ f ∈ found, Up f) (hf : ∀ t, t ∈ found ↔ MH F t) : TS (step found m) ∧ ∀ t, t ∈ step found m ↔ MH (F ++ [m]) t := by
  obtain ⟨h1, h2⟩ := least_spec (grow_up (m := m) hu)
  have gh : ∀ g ∈ grow found m, Hits g (F ++ [m]) := fun g hg => by
    rcases List.mem_append.mp hg with z | z
    · obtain ⟨z1, z2⟩ := List.mem_filter.mp z
      obtain ⟨x, hx, hg⟩ := shr_iff.mp z2
      intro f hf'
      rcases List.mem_append.mp hf' with y | y
      · exact ((hf g).mp z1).2.1 f y
      · rw [List.mem_singleton.mp y]; exact ⟨x, hx, hg⟩
    · obtain ⟨row, hr, hx⟩ := List.mem_flatMap.mp z
      obtain ⟨x, xm, rfl⟩ := List.mem_map.mp hx
      obtain ⟨hr, _⟩ := List.mem_filter.mp hr
      intro f hf'
      rcases List.mem_append.mp hf' with y | y
      · obtain ⟨u, hu', hr'⟩ := ((hf row).mp hr).2.1 f y
        exact ⟨u, hu', srt_mem.mpr (List.mem_append_left _ hr')⟩
      · rw [List.mem_singleton.mp y]
        exact ⟨x, xm, srt_mem.mpr (List.mem_append_right _ (List.mem_singleton.mpr rfl))⟩
  have gb : ∀ S, Up S → Hits S (F ++ [m]) → ∃ g ∈ grow found m, sub g S := fun S hS hh => by
    obtain ⟨t, ht, ts⟩ := mh_below S.length hS (fun f hf' => hh f (List.mem_append_left _ hf')) (Nat.le_refl _)
    have tf := (hf t).mpr ht
    by_cases hs : shr t m = true
    · exact ⟨t, List.mem_append_left _ (List.mem_filter.mpr ⟨tf, hs⟩), ts⟩
    · obtain ⟨x, hx, hxS⟩ := hh m (List.mem_append_right _ (List.mem_singleton.mpr rfl))
      refine ⟨srt (t ++ [x]), List.mem_append_right _ (List.mem_flatMap.mpr ⟨t, List.mem_filter.mpr ⟨tf, by rw [Bool.eq_false_iff.mpr hs]; rfl⟩, List.mem_map.mpr ⟨x, hx, rfl⟩⟩), fun y hy => ?_⟩
      rcases List.mem_append.mp (srt_mem.mp hy) with z | z
      · exact ts y z
      · rw [List.mem_singleton.mp z]; exact hxS
  refine ⟨h1, fun t => (h2 t).trans ⟨fun h => ⟨grow_up hu t h.1, gh t h.1, fun s hs hh ss => ?_⟩, fun h => ?_⟩⟩
  · obtain ⟨g, hg, gs⟩ := gb s hs hh
    have e := h.2 g hg fun x hx => ss x (gs x hx)
    subst e
    exact sub_anti hs (grow_up hu g hg) ss gs
  · obtain ⟨g, hg, gs⟩ := gb t h.1 h.2.1
    have e := h.2.2 g (grow_up hu g hg) (gh g hg) gs
    subst e
    refine ⟨hg, fun f hf' fs => h.2.2 f (grow_up hu f hf') (gh f hf') fs⟩
def blk (F : List P) : List P := (least F).foldl step [[]]
theorem fold_spec : ∀ (Ms F found : List P), (∀ f ∈ found, Up f) → TS found → (∀ t, t ∈ found ↔ MH F t) → TS (Ms.foldl step found) ∧ ∀ t, t ∈ Ms.foldl step found ↔ MH (F ++ Ms) t
  | [], F, found, hu, hT, hf => ⟨hT, fun t => by rw [List.append_nil]; exact hf t⟩
  | m :: Ms, F, found, hu, hT, hf => by
    obtain ⟨h1, h2⟩ := step_spec (m := m) hu hf
    have := fold_spec Ms (F ++ [m]) (step found m) (fun f hf' => ((h2 f).mp hf').1) h1 h2
    rw [List.append_assoc] at this
    exact this
theorem mh_nil (t : P) : t ∈ [([] : P)] ↔ MH [] t := by
  rw [List.mem_singleton]
  constructor
  · rintro rfl
    refine ⟨List.Pairwise.nil, fun f hf => (by cases hf), fun s _ _ hs => ?_⟩
    cases s with
    | nil => rfl
    | cons a s => have := hs a List.mem_cons_self; cases this
  · intro h
    exact (h.2.2 [] List.Pairwise.nil (fun f hf => (by cases hf)) fun x hx => (by cases hx)).symm
/-- hitting the least members is hitting all -/
theorem hits_least {F : List P} (hu : ∀ f ∈ F, Up f) (S : P) : Hits S (least F) ↔ Hits S F := by
  obtain ⟨_, h2⟩ := least_spec hu
  constructor
  · intro h f hf
    obtain ⟨g, hg, gs⟩ := mn_below hu f.length hf (Nat.le_refl _)
    obtain ⟨x, hx, hS⟩ := h g ((h2 g).mpr hg)
    exact ⟨x, gs x hx, hS⟩
  · intro h f hf
    exact h f ((h2 f).mp hf).1
theorem mh_least {F : List P} (hu : ∀ f ∈ F, Up f) (t : P) : MH (least F) t ↔ MH F t := by
  unfold MH
  rw [hits_least hu]
  exact ⟨fun ⟨a, b, c⟩ => ⟨a, b, fun s h1 h2 => c s h1 ((hits_least hu s).mpr h2)⟩, fun ⟨a, b, c⟩ => ⟨a, b, fun s h1 h2 => c s h1 ((hits_least hu s).mp h2)⟩⟩
theorem blk_spec {F : List P} (hu : ∀ f ∈ F, Up f) : TS (blk F) ∧ ∀ t, t ∈ blk F ↔ MH F t := by
  obtain ⟨h1, h2⟩ := fold_spec (least F) [] [[]] (fun f hf => by rw [List.mem_singleton.mp hf]; exact List.Pairwise.nil) (List.pairwise_singleton _ _) mh_nil
  refine ⟨h1, fun t => (h2 t).trans ?_⟩
  rw [List.nil_append]
  exact mh_least hu t
/-- a least hitting list stands within the members -/
theorem mh_in {F : List P} {t U : P} (h : MH F t) (hU : ∀ f ∈ F, sub f U) : sub t U := fun x hx => Classical.byContradiction fun hn => by
  have e := h.2.2 (t.filter fun y => decide (y ≠ x)) (h.1.sublist List.filter_sublist) (fun f hf => by
    obtain ⟨y, hy, yt⟩ := h.2.1 f hf
    exact ⟨y, hy, List.mem_filter.mpr ⟨yt, decide_eq_true fun e => hn (hU f hf x (e ▸ hy))⟩⟩) fun y hy => (List.mem_filter.mp hy).1
  rw [← e] at hx
  have := (List.mem_filter.mp hx).2
  simp at this
/-- the duality -/
theorem hits_dual {F : List P} {U : P} (hU : Up U) (hu : ∀ f ∈ F, Up f) (hs : ∀ f ∈ F, sub f U) {S : P} : Hits S (blk F) ↔ ∃ f ∈ F, sub f S := by
  obtain ⟨_, h2⟩ := blk_spec hu
  constructor
  · intro h
    refine Classical.byContradiction fun hn => ?_
    have hc : Hits (U.filter fun x => decide (x ∉ S)) F := fun f hf => by
      obtain ⟨x, hx, hxS⟩ : ∃ x ∈ f, x ∉ S := Classical.byContradiction fun z => hn ⟨f, hf, fun x hx => Classical.byContradiction fun y => z ⟨x, hx, y⟩⟩
      exact ⟨x, hx, List.mem_filter.mpr ⟨hs f hf x hx, decide_eq_true hxS⟩⟩
    obtain ⟨t, ht, ts⟩ := mh_below _ (hU.sublist List.filter_sublist) hc (Nat.le_refl _)
    obtain ⟨x, hx, hS⟩ := h t ((h2 t).mpr ht)
    have := of_decide_eq_true (List.mem_filter.mp (ts x hx)).2
    exact this hS
  · rintro ⟨f, hf, fs⟩ t ht
    obtain ⟨x, hx, xt⟩ := ((h2 t).mp ht).2.1 f hf
    exact ⟨x, xt, fs x hx⟩
theorem blk_blk {F : List P} {U : P} (hU : Up U) (hu : ∀ f ∈ F, Up f) (hs : ∀ f ∈ F, sub f U) : blk (blk F) = least F := by
  obtain ⟨a1, a2⟩ := blk_spec hu
  obtain ⟨b1, b2⟩ := blk_spec (F := blk F) fun f hf => ((a2 f).mp hf).1
  obtain ⟨c1, c2⟩ := least_spec hu
  refine ts_ext b1 c1 fun t => (b2 t).trans (Iff.trans ?_ (c2 t).symm)
  constructor
  · rintro ⟨h1, h2, h3⟩
    obtain ⟨f, hf, fs⟩ := (hits_dual hU hu hs).mp h2
    have e := h3 f (hu f hf) ((hits_dual hU hu hs).mpr ⟨f, hf, fun x hx => hx⟩) fs
    subst e
    exact ⟨hf, fun g hg gs => h3 g (hu g hg) ((hits_dual hU hu hs).mpr ⟨g, hg, fun x hx => hx⟩) gs⟩
  · rintro ⟨h1, h2⟩
    refine ⟨hu t h1, (hits_dual hU hu hs).mpr ⟨t, h1, fun x hx => hx⟩, fun s hs' hh ss => ?_⟩
    obtain ⟨f, hf, fs⟩ := (hits_dual hU hu hs).mp hh
    have e := h2 f hf fun x hx => ss x (fs x hx)
    subst e
    exact sub_anti hs' (hu f hf) ss fs
end Fam

set_option maxHeartbeats 400000
namespace Fam
open G
/-- the law's parts, not sorted yet -/
def allp (I : P) : List P := I.foldl (fun found x => found ++ found.map fun p => p ++ [x]) [[]]
theorem up_snoc {p : P} {x : Int} : Up (p ++ [x]) ↔ Up p ∧ ∀ y ∈ p, y < x := by
  unfold Up
  rw [List.pairwise_append]
  constructor
  · rintro ⟨a, _, c⟩
    exact ⟨a, fun y hy => c y hy x (List.mem_singleton.mpr rfl)⟩
  · rintro ⟨a, c⟩
    exact ⟨a, List.pairwise_singleton _ _, fun y hy z hz => by rw [List.mem_singleton.mp hz]; exact c y hy⟩
theorem snoc_inj {p q : P} {x y : Int} (h : p ++ [x] = q ++ [y]) : p = q ∧ x = y := by
  obtain ⟨h1, h2⟩ := List.append_inj' h rfl
  exact ⟨h1, by injection h2⟩
theorem allp_gen : ∀ (I : P) (J : P) (found : List P), Up (J ++ I) → found.Nodup → (∀ t, t ∈ found ↔ Up t ∧ sub t J) → (I.foldl (fun found x => found ++ found.map fun p => p ++ [x]) found).Nodup ∧ ∀ t, t ∈ I.foldl (fun found x => found ++ found.map fun p => p ++ [x]) found ↔ Up t ∧ sub t (J ++ I)
  | [], J, found, _, hn, hm => ⟨hn, fun t => by rw [List.append_nil]; exact hm t⟩
  | x :: I, J, found, hu, hn, hm => by
    have e : J ++ x :: I = (J ++ [x]) ++ I := by simp
    have uJ : Up (J ++ [x]) := by rw [e] at hu; exact (List.pairwise_append.mp hu).1
    obtain ⟨u1, u2⟩ := up_snoc.mp uJ
    rw [e]
    refine allp_gen I (J ++ [x]) (found ++ found.map fun p => p ++ [x]) (by rw [← e]; exact hu) ?_ fun t => ?_
    · refine List.nodup_append.mpr ⟨hn, ?_, fun a ha b hb h => ?_⟩
      · refine List.nodup_iff_pairwise_ne.mpr ?_
        rw [List.pairwise_map]
        exact (List.nodup_iff_pairwise_ne.mp hn).imp fun h z => h (snoc_inj z).1
      · obtain ⟨q, hq, rfl⟩ := List.mem_map.mp hb
        have := ((hm a).mp ha).2 x (by rw [h]; exact List.mem_append_right _ (List.mem_singleton.mpr rfl))
        have := u2 x this
        omega
    · rw [List.mem_append, hm t, List.mem_map]
      constructor
      · rintro (⟨h1, h2⟩ | ⟨q, hq, rfl⟩)
        · exact ⟨h1, fun y hy => List.mem_append_left _ (h2 y hy)⟩
        · obtain ⟨q1, q2⟩ := (hm q).mp hq
          exact ⟨up_snoc.mpr ⟨q1, fun y hy => u2 y (q2 y hy)⟩, fun y hy => by
            rcases List.mem_append.mp hy with z | z
            · exact List.mem_append_left _ (q2 y z)
            · exact List.mem_append_right _ z⟩
      · rintro ⟨h1, h2⟩
        by_cases hx : x ∈ t
        · refine .inr ⟨t.filter fun y => decide (y ≠ x), (hm _).mpr ⟨h1.sublist List.filter_sublist, fun y hy => ?_⟩, ?_⟩
          · obtain ⟨y1, y2⟩ := List.mem_filter.mp hy
            rcases List.mem_append.mp (h2 y y1) with z | z
            · exact z
            · rw [List.mem_singleton.mp z] at y2
              simp at y2
          · refine up_ext (up_snoc.mpr ⟨h1.sublist List.filter_sublist, fun y hy => ?_⟩) h1 fun y => ?_
            · obtain ⟨y1, y2⟩ := List.mem_filter.mp hy
              rcases List.mem_append.mp (h2 y y1) with z | z
              · exact u2 y z
              · rw [List.mem_singleton.mp z] at y2
                simp at y2
            · rw [List.mem_append, List.mem_filter, List.mem_singleton]
              constructor
              · rintro (⟨y1, _⟩ | y1)
                · exact y1
                · rw [y1]; exact hx
              · intro hy
                by_cases z : y = x
                · exact .inr z
                · exact .inl ⟨hy, decide_eq_true z⟩
        · refine .inl ⟨h1, fun y hy => ?_⟩
          rcases List.mem_append.mp (h2 y hy) with z | z
          · exact z
          · rw [List.mem_singleton.mp z] at hy
            exact absurd hy hx
theorem allp_spec {I : P} (hI : Up I) : (allp I).Nodup ∧ ∀ t, t ∈ allp I ↔ Up t ∧ sub t I := by
  have := allp_gen I [] [[]] (by rw [List.nil_append]; exact hI) (by simp) fun t => by
    rw [List.mem_singleton]
    constructor
    · rintro rfl
      exact ⟨List.Pairwise.nil, fun x hx => hx⟩
    · rintro ⟨_, h⟩
      cases t with
      | nil => rfl
      | cons a t => have := h a List.mem_cons_self; cases this
  rw [List.nil_append] at this
  exact this
def lawParts (I : P) : List P := (allp I).mergeSort tle
theorem parts_spec {I : P} (hI : Up I) : TS (lawParts I) ∧ ∀ t, t ∈ lawParts I ↔ Up t ∧ sub t I := by
  obtain ⟨h1, h2⟩ := allp_spec hI
  refine ⟨ts_sort h1, fun t => ?_⟩
  unfold lawParts
  rw [(List.mergeSort_perm _ tle).mem_iff]
  exact h2 t
/-- the law's blockers -/
def hitsB (F : List P) (p : P) : Bool := decide ((F.filter fun one => decide ((one.filter fun x => decide (x ∈ p)) = [])) = [])
theorem hitsB_iff {F : List P} {p : P} : hitsB F p = true ↔ Hits p F := by
  unfold hitsB Hits
  rw [decide_eq_true_iff, List.filter_eq_nil_iff]
  constructor
  · intro h f hf
    refine Classical.byContradiction fun z => h f hf ?_
    rw [decide_eq_true_iff, List.filter_eq_nil_iff]
    exact fun x hx hp => z ⟨x, hx, of_decide_eq_true hp⟩
  · intro h f hf z
    rw [decide_eq_true_iff, List.filter_eq_nil_iff] at z
    obtain ⟨x, hx, hp⟩ := h f hf
    exact z x hx (decide_eq_true hp)
def lawBlk (I : P) (F : List P) : List P := lst1 [] ((lawParts I).filter (hitsB F))
theorem law_blk {I : P} {F : List P} (hI : Up I) (hu : ∀ f ∈ F, Up f) (hs : ∀ f ∈ F, sub f I) : lawBlk I F = blk F := by
  obtain ⟨p1, p2⟩ := parts_spec hI
  obtain ⟨b1, b2⟩ := blk_spec hu
  have uG : ∀ g ∈ (lawParts I).filter (hitsB F), Up g := fun g hg => ((p2 g).mp (List.mem_filter.mp hg).1).1
  obtain ⟨c1, c2⟩ := lst1_spec (F := (lawParts I).filter (hitsB F)) uG ((lawParts I).filter (hitsB F)) [] [] (fun x => by rw [List.nil_append]) (by rw [List.nil_append]; exact (p1.imp fun h => h.1).sublist List.filter_sublist) List.Pairwise.nil fun x => ⟨fun h => (by cases h), fun h => (by cases h.1)⟩
  refine ts_ext c1 b1 fun t => (c2 t).trans (Iff.trans ?_ (b2 t).symm)
  have mem : ∀ g, g ∈ (lawParts I).filter (hitsB F) ↔ (Up g ∧ sub g I) ∧ Hits g F := fun g => by rw [List.mem_filter, p2 g, hitsB_iff]
  constructor
  · rintro ⟨h1, h2⟩
    obtain ⟨⟨u, i⟩, h⟩ := (mem t).mp h1
    refine ⟨u, h, fun s hs' hh ss => h2 s ((mem s).mpr ⟨⟨hs', fun x hx => i x (ss x hx)⟩, hh⟩) ss⟩
  · intro h
    exact ⟨(mem t).mpr ⟨⟨h.1, mh_in h hs⟩, h.2.1⟩, fun f hf fs => h.2.2 f ((mem f).mp hf).1.1 ((mem f).mp hf).2 fs⟩
def lastOk (row : P) (x : Int) : Bool := match row.getLast? with
  | none => true
  | some y => decide (y < x)
def nxt (I : P) (rows : List P) : List P := rows.flatMap fun row => (I.filter (lastOk row)).map fun x => row ++ [x]
def lev (I : P) : Nat → List P
  | 0 => [[]]
  | k + 1 => nxt I (lev I k)
theorem lastOk_up {row : P} (h : Up row) (x : Int) : lastOk row x = true ↔ ∀ y ∈ row, y < x := by
  unfold lastOk
  cases e : row.getLast? with
  | none =>
    have := List.getLast?_eq_none_iff.mp e
    subst this
    simp
  | some z =>
    obtain ⟨ys, rfl⟩ := List.getLast?_eq_some_iff.mp e
    rw [decide_eq_true_iff]
    obtain ⟨_, u⟩ := up_snoc.mp h
    constructor
    · intro hz y hy
      rcases List.mem_append.mp hy with q | q
      · have := u y q; omega
      · rw [List.mem_singleton.mp q]; exact hz
    · intro hh
      exact hh z (List.mem_append_right _ (List.mem_singleton.mpr rfl))
theorem lex_snoc_same : ∀ (p : P) {x y : Int}, x ≤ y → lexle (p ++ [x]) (p ++ [y]) = true
  | [], x, y, h => by
    show (decide (x < y) || (decide (x = y) && true)) = true
    rw [Bool.and_true, Bool.or_eq_true, decide_eq_true_iff, decide_eq_true_iff]
    omega
  | a :: p, x, y, h => by
    rw [List.cons_append, List.cons_append, lexle, lex_snoc_same p h]
    simp
theorem lex_snoc : ∀ (p q : P) {x y : Int}, p.length = q.length → p ≠ q → lexle p q = true → lexle (p ++ [x]) (q ++ [y]) = true
  | [], [], _, _, _, h, _ => absurd rfl h
  | [], _ :: _, _, _, h, _, _ => by simp at h
  | _ :: _, [], _, _, h, _, _ => by simp at h
  | a :: p, b :: q, x, y, hl, hne, h => by
    simp only [List.cons_append, lexle, Bool.or_eq_true, Bool.and_eq_true, decide_eq_true_eq] at *
    rcases h with h | ⟨h1, h2⟩
    · exact .inl h
    · exact .inr ⟨h1, lex_snoc p q (by simpa using hl) (fun z => hne (by rw [h1, z])) h2⟩
theorem lev_spec {I : P} (hI : Up I) : ∀ k, (lev I k).Pairwise (fun p q => lexle p q = true ∧ p ≠ q) ∧ ∀ t, t ∈ lev I k ↔ (Up t ∧ sub t I) ∧ t.length = k
  | 0 => by
    refine ⟨List.pairwise_singleton _ _, fun t => ?_⟩
    show t ∈ [([] : P)] ↔ _
    rw [List.mem_singleton]
    constructor
    · rintro rfl
      exact ⟨⟨List.Pairwise.nil, fun x hx => by cases hx⟩, rfl⟩
    · rintro ⟨_, h⟩
      exact List.length_eq_zero_iff.mp h
  | k + 1 => by
    obtain ⟨h1, h2⟩ := lev_spec hI k
    refine ⟨?_, fun t => ?_⟩
    · show ((lev I k).flatMap fun row => (I.filter (lastOk row)).map fun x => row ++ [x]).Pairwise _
      rw [List.pairwise_flatMap]
      refine ⟨fun row hr => ?_, ?_⟩
      · rw [List.pairwise_map]
        refine (hI.sublist List.filter_sublist).imp fun {x y} h => ⟨lex_snoc_same row (by omega), fun z => ?_⟩
        have := (snoc_inj z).2
        omega
      · refine List.Pairwise.imp_of_mem ?_ h1
        intro p q hp hq h x hx y hy
        obtain ⟨a, _, rfl⟩ := List.mem_map.mp hx
        obtain ⟨b, _, rfl⟩ := List.mem_map.mp hy
        have lp := ((h2 p).mp hp).2
        have lq := ((h2 q).mp hq).2
        exact ⟨lex_snoc p q (by omega) h.2 h.1, fun z => h.2 (snoc_inj z).1⟩
    · show t ∈ (lev I k).flatMap _ ↔ _
      rw [List.mem_flatMap]
      constructor
      · rintro ⟨row, hr, hx⟩
        obtain ⟨x, xm, rfl⟩ := List.mem_map.mp hx
        obtain ⟨hx, lo⟩ := List.mem_filter.mp xm
        obtain ⟨⟨u, i⟩, l⟩ := (h2 row).mp hr
        refine ⟨⟨up_snoc.mpr ⟨u, (lastOk_up u x).mp lo⟩, fun y hy => ?_⟩, by rw [List.length_append, l]; rfl⟩
        rcases List.mem_append.mp hy with z | z
        · exact i y z
        · rw [List.mem_singleton.mp z]; exact hx
      · rintro ⟨⟨u, i⟩, l⟩
        have hne : t ≠ [] := fun z => by rw [z] at l; simp at l
        have e := List.dropLast_concat_getLast hne
        rw [← e] at u i l
        obtain ⟨u1, u2⟩ := up_snoc.mp u
        refine ⟨t.dropLast, (h2 _).mpr ⟨⟨u1, fun y hy => i y (List.mem_append_left _ hy)⟩, by rw [List.length_append] at l; simpa using l⟩, ?_⟩
        refine List.mem_map.mpr ⟨t.getLast hne, List.mem_filter.mpr ⟨i _ (List.mem_append_right _ (List.mem_singleton.mpr rfl)), (lastOk_up u1 _).mpr u2⟩, e⟩
/-- what subsets yields -/
def levs (I : P) : List P := (List.range (I.length + 1)).flatMap (lev I)
theorem levs_parts {I : P} (hI : Up I) : levs I = lawParts I := by
  obtain ⟨p1, p2⟩ := parts_spec hI
  refine ts_ext ?_ p1 fun t => ?_
  · unfold levs TS
    rw [List.pairwise_flatMap]
    refine ⟨fun k _ => ?_, ?_⟩
    · obtain ⟨h1, h2⟩ := lev_spec hI k
      refine List.Pairwise.imp_of_mem ?_ h1
      intro p q hp hq h
      exact ⟨tle_iff.mpr (.inr ⟨by rw [((h2 p).mp hp).2, ((h2 q).mp hq).2], h.1⟩), h.2⟩
    · refine List.pairwise_lt_range.imp fun {i j} h x hx y hy => ?_
      have lx := (((lev_spec hI i).2 x).mp hx).2
      have ly := (((lev_spec hI j).2 y).mp hy).2
      exact ⟨tle_iff.mpr (.inl (by omega)), fun z => by rw [z] at lx; omega⟩
  · unfold levs
    rw [List.mem_flatMap, p2 t]
    constructor
    · rintro ⟨k, _, hk⟩
      exact (((lev_spec hI k).2 t).mp hk).1
    · intro h
      exact ⟨t.length, List.mem_range.mpr (by have := sub_len (up_nodup h.1) h.2; omega), ((lev_spec hI _).2 t).mpr ⟨h, rfl⟩⟩
theorem lev_ne {I : P} (hI : Up I) {k : Nat} (h : k ≤ I.length) : lev I k ≠ [] := fun z => by
  have : I.take k ∈ lev I k := ((lev_spec hI k).2 _).mpr ⟨⟨hI.sublist (List.take_sublist k I), fun x hx => List.mem_of_mem_take hx⟩, by rw [List.length_take]; omega⟩
  rw [z] at this
  cases this
theorem lev_end {I : P} (hI : Up I) : lev I (I.length + 1) = [] := by
  refine List.eq_nil_iff_forall_not_mem.mpr fun t ht => ?_
  obtain ⟨⟨u, i⟩, l⟩ := ((lev_spec hI _).2 t).mp ht
  have := sub_len (up_nodup u) i
  omega
end Fam

set_option maxHeartbeats 4000000
namespace K
open PySem L2 G
section
variable {Γ : Gam}
theorem big {n : Nat} (h : n ≤ 1000) : n ≤ sizeLine := Nat.le_trans h (by decide)
theorem rng_eq {f : Ev Γ} {env e1 : Env Γ} {n : Int} (h : f env = some (.dat (.int n), e1)) (h0 : 0 ≤ n) (h1 : n ≤ 1000) : iRng f env = some ((List.range n.toNat).map fun (k : Nat) => G.D.int (k : Int), e1) := by
  unfold iRng
  rw [h]
  exact if_pos ⟨by omega, by omega⟩
theorem lst_N {env e1 : Env Γ} {as : List (AE Γ)} {xs : List (Ag Γ)} {ds : List G.D} (h1 : evAs as env = some (xs, e1)) (h2 : peeks xs e1 = some (ds.map .dat)) (hl : ds.length ≤ sizeLine) : mN pLstN as env = some (.lst ds, e1) := by
  have ha : ∀ l : List G.D, allDat (Γ := Γ) (l.map .dat) = some l := by
    intro l
    induction l with
    | nil => rfl
    | cons d l ih => rw [List.map_cons]; unfold allDat; rw [ih]; rfl
  unfold mN
  rw [h1]
  simp only [h2, pLstN, ha, if_pos hl, Option.map_some]
theorem allBl_map (bs : List Bool) : allBl (bs.map G.D.bl) = some bs := by
  induction bs with
  | nil => rfl
  | cons b bs ih => rw [List.map_cons]; unfold allBl; rw [ih]; rfl
theorem call_dat {f : Fn Γ} {env : Env Γ} {b : Nat} {d : G.D} {r : Sl Γ} (hb : env[b]? = some (.dat d)) (he : f [.dat d] = some (r, [.dat d])) : mCall 1 f [.brw b] env = some (r, env) := by
  simp [mCall, evAs, evA, hb, got, takeA, nonOwn, he, putA]
def lay (k : Nat) (d : G.D) : Prop := d.toPy.canLay0 = true ∧ d.toPy.depth ≤ k
theorem lay_all {k : Nat} : ∀ ds : List G.D, (∀ d ∈ ds, lay k d) → PyData.canLayAll0 (D.toPys ds) = true ∧ PyData.depthAll (D.toPys ds) ≤ k
  | [], _ => ⟨rfl, Nat.zero_le _⟩
  | d :: ds, h => by
    obtain ⟨h1, h2⟩ := h d List.mem_cons_self
    obtain ⟨i1, i2⟩ := lay_all ds fun x hx => h x (List.mem_cons_of_mem _ hx)
    unfold D.toPys
    unfold PyData.canLayAll0 PyData.depthAll
    rw [h1, i1]
    exact ⟨rfl, Nat.max_le.mpr ⟨h2, i2⟩⟩
theorem lay_lst {k : Nat} {ds : List G.D} (h : ∀ d ∈ ds, lay k d) : lay (k + 1) (.lst ds) := by
  obtain ⟨h1, h2⟩ := lay_all ds h
  unfold lay D.toPy PyData.canLay0 PyData.depth
  exact ⟨h1, by omega⟩
theorem lay_tup {k : Nat} {ds : List G.D} (h : ∀ d ∈ ds, lay k d) : lay (k + 1) (.tup ds) := by
  obtain ⟨h1, h2⟩ := lay_all ds h
  unfold lay D.toPy PyData.canLay0 PyData.depth
  exact ⟨h1, by omega⟩
theorem lay_ok {k : Nat} {d : G.D} (h : lay k d) (hk : k ≤ 60) : okD d = true := by
  unfold okD SeqAt.shaped
  rw [h.1]
  exact decide_eq_true (Nat.le_trans h.2 (by omega))
theorem lay_mono {k l : Nat} {d : G.D} (h : lay k d) (hl : k ≤ l) : lay l d := ⟨h.1, Nat.le_trans h.2 hl⟩
theorem lay_int (i : Int) : lay 0 (.int i) := by unfold lay D.toPy PyData.canLay0 PyData.depth; exact ⟨rfl, Nat.le_refl _⟩
theorem lay_ints (ns : List Int) : ∀ d ∈ ns.map G.D.int, lay 0 d := fun d hd => by
  obtain ⟨i, _, rfl⟩ := List.mem_map.mp hd
  exact lay_int i
theorem eqv_ints : ∀ ns ms : List Int, PyData.eqvAll (D.toPys (ns.map G.D.int)) (D.toPys (ms.map G.D.int)) = decide (ns = ms)
  | [], [] => rfl
  | [], _ :: _ => rfl
  | _ :: _, [] => rfl
  | n :: ns, m :: ms => by
    rw [List.map_cons, List.map_cons]
    unfold D.toPys PyData.eqvAll
    rw [eqv_ints ns ms]
    have : PyData.eqv (D.toPy (.int n)) (D.toPy (.int m)) = decide (n = m) := eqD_int n m
    rw [this]
    by_cases h1 : n = m <;> by_cases h2 : ns = ms <;> simp [h1, h2]
theorem eq_tints (ns ms : List Int) : eqD (.tup (ns.map .int)) (.tup (ms.map .int)) = decide (ns = ms) := by
  unfold eqD D.toPy PyData.eqv
  exact eqv_ints ns ms
theorem same {env : Env Γ} {i : Nat} {s : Sl Γ} (h : env[i]? = some s) : env.set i s = env := by
  have lt : i < env.length := (List.getElem?_eq_some_iff.mp h).1
  refine List.ext_getElem? fun k => ?_
  by_cases e : k = i
  · subst e; rw [h]; simp [lt]
  · rw [List.getElem?_set_ne (fun z => e z.symm)]
/-- is n among the ints? -/
theorem in_ints {g : Bool → Bool} {s : Sl Γ} {ns : List Int} {n : Int} (h : s.view = some (.lst (ns.map .int))) : pInG g (.dat (.int n)) s = some (db (g (decide (n ∈ ns)))) := by
  unfold pInG
  rw [h]
  simp only [Sl.view, okD_int, okD_ints, any_int, Bool.and_self, if_true]
theorem in_tints {g : Bool → Bool} {s : Sl Γ} {ns : List Int} {n : Int} (h : s.view = some (.tup (ns.map .int))) : pInG g (.dat (.int n)) s = some (db (g (decide (n ∈ ns)))) := by
  have f : (ns.map G.D.int).all isFlat = true := List.all_eq_true.mpr fun d hd => by
    obtain ⟨i, _, rfl⟩ := List.mem_map.mp hd
    rfl
  unfold pInG
  rw [h]
  simp only [Sl.view, isFlat, f, any_int, Bool.and_self, if_true]
theorem toT_eq {f : Ev Γ} {env e1 : Env Γ} {b : Bool} (h : f env = some (.dat (.bl b), e1)) : toT f env = some (b, e1) := by unfold toT; rw [h]
def isL {Γ : Gam} (s : Sl Γ) (ds : List G.D) : Prop := s = .lst ds ∨ s = .dat (.lst ds)
theorem isL.view {s : Sl Γ} {ds : List G.D} (hs : isL s ds) : s.view = some (.lst ds) := by rcases hs with rfl | rfl <;> rfl
theorem isL.got {s : Sl Γ} {ds : List G.D} (hs : isL s ds) : got (some s) = some s := by rcases hs with rfl | rfl <;> rfl
theorem call_b2x {f : Fn Γ} {env e1 : Env Γ} {b : Nat} {s0 s s' r x x' : Sl Γ} {fm : Ev Γ} (hb0 : env[b]? = some s0) (h0 : s0 ≠ .none) (hm : fm env = some (x, e1)) (hb : e1[b]? = some s) (ho : nonOwn s = false) (he : f [s, x] = some (r, [s', x'])) : mCall 2 f [.brw b, .ex fm] env = some (r, e1.set b s') := by
  have g : got (some s) = some s := by cases s <;> first | rfl | cases ho
  have g0 : got (some s0) = some s0 := by cases s0 <;> first | rfl | exact absurd rfl h0
  simp [mCall, evAs, evA, hb0, hb, g0, g, takeA, ho, hm, he, putA]
theorem eq_ints {g : Bool → Bool} {n m : Int} : pEqG (Γ := Γ) g (.dat (.int n)) (.dat (.int m)) = some (db (g (decide (n = m)))) := by
  unfold pEqG
  simp only [Sl.view, okD_int, eqD_int, Bool.and_self, if_true]
theorem allInt_map (ns : List Int) : allInt (ns.map G.D.int) = some ns := by
  induction ns with
  | nil => rfl
  | cons n ns ih => rw [List.map_cons]; unfold allInt; rw [ih]; rfl
theorem fil_comp (vs : List Nat) (p : Int → Bool) (t : Eg Γ) (tc : Et Γ) (f : Ev Γ) (env : Env Γ) (h : ∀ x : Int, ∃ e1, t (.int x) env = some e1 ∧ tc e1 = some (p x, e1) ∧ f e1 = some (.dat (.int x), e1) ∧ wipeE vs e1 = some env) : ∀ ns : List Int, compL vs t tc f (ns.map .int) env = some ((ns.filter p).map .int, env)
  | [] => rfl
  | x :: ns => by
    obtain ⟨e1, h1, h2, h3, h4⟩ := h x
    have ih := fil_comp vs p t tc f env h ns
    rw [List.map_cons]
    unfold compL
    rw [h1]
    by_cases hx : p x = true
    · rw [hx] at h2
      simp only [h2, h3, h4, ih, Option.map_some]
      rw [List.filter_cons_of_pos hx]
      rfl
    · rw [Bool.eq_false_iff.mpr hx] at h2
      simp only [h2, h4, ih]
      rw [List.filter_cons_of_neg hx]
theorem m2_bx {p : Sl Γ → Sl Γ → Option (Sl Γ)} {b : Nat} {g : Ev Γ} {env : Env Γ} {s t u : Sl Γ} (hb : env[b]? = some s) (hs : s ≠ .none) (hg : g env = some (t, env)) (h : p s t = some u) : m2 p (.brw b) (.ex g) env = some (u, env) := by
  have g0 : got (some s) = some s := by cases s <;> first | rfl | exact absurd rfl hs
  simp only [m2, evA, hb, g0, Option.map_some, hg, peek, h]
theorem add_ll {a b : List G.D} (h : a.length + b.length ≤ sizeLine) : pAdd (Γ := Γ) (.lst a) (.lst b) = some (.lst (a ++ b)) := by
  unfold pAdd
  simp only [Sl.view]
  rw [if_pos h]
theorem isL.seq {s : Sl Γ} {ds : List G.D} {env : Env Γ} {i : Nat} (h : env[i]? = some s) (hs : isL s ds) : iSeq (mVar i) env = some (ds, env.set i (.dat (.lst ds))) := by
  have lt : i < env.length := (List.getElem?_eq_some_iff.mp h).1
  rcases hs with rfl | rfl
  · simp only [iSeq, mVar, h]
  · simp only [iSeq, mVar, h, same h]
theorem compL_fil {α : Type} {vs : List Nat} {t : Eg Γ} {tc : Et Γ} {f : Ev Γ} {env : Env Γ} (h g : α → G.D) (p : α → Bool) : ∀ (as : List α), (∀ a ∈ as, ∃ e1, t (h a) env = some e1 ∧ tc e1 = some (p a, e1) ∧ (p a = true → f e1 = some (.dat (g a), e1)) ∧ wipeE vs e1 = some env) → compL vs t tc f (as.map h) env = some ((as.filter p).map g, env)
  | [], _ => rfl
  | a :: as, st => by
    obtain ⟨e1, h1, h2, h3, h4⟩ := st a List.mem_cons_self
    have ih := compL_fil h g p as fun a ha => st a (List.mem_cons_of_mem _ ha)
    rw [List.map_cons]
    unfold compL
    rw [h1]
    by_cases hx : p a = true
    · have h3 := h3 hx
      rw [hx] at h2
      simp only [h2, h3, h4, ih, Option.map_some]
      rw [List.filter_cons_of_pos hx]
      rfl
    · rw [Bool.eq_false_iff.mpr hx] at h2
      simp only [h2, h4, ih]
      rw [List.filter_cons_of_neg hx]
theorem tup_ints {f : Ev Γ} {env e1 : Env Γ} {ns : List Int} (h : f env = some (.lst (ns.map .int), e1)) : mN (pN1 pTuple) [.ex f] env = some (.dat (.tup (ns.map .int)), e1) := by
  simp only [mN, evAs, evA, h, Option.map_some, peeks, peek, pN1, pTuple, Sl.view]
theorem seq_rt1 {f g : Es Γ} {env e1 : Env Γ} {s : Sl Γ} (h : f env = some (.rt s, e1)) : mSeq f g env = some (.rt s, e1) := by unfold mSeq; rw [h]
theorem forL_rt1 {t : Eg Γ} {g : Es Γ} {d : G.D} {ds : List G.D} {env e1 e2 : Env Γ} {s : Sl Γ} (h1 : t d env = some e1) (h2 : g e1 = some (.rt s, e2)) : forL t g (d :: ds) env = some (.rt s, e2) := by
  unfold forL
  rw [h1]
  simp only [h2]
theorem forL_nx1 {t : Eg Γ} {g : Es Γ} {d : G.D} {ds : List G.D} {env e1 e2 : Env Γ} (h1 : t d env = some e1) (h2 : g e1 = some (.nx, e2)) : forL t g (d :: ds) env = forL t g ds e2 := by
  rw [forL, h1]
  simp only [h2]
theorem and_tt {p q : Et Γ} {env : Env Γ} {a b : Bool} (h1 : p env = some (a, env)) (h2 : q env = some (b, env)) : mAndT p q env = some (a && b, env) := by
  unfold mAndT
  rw [h1]
  cases a with
  | true => simp only [h2, Bool.true_and]
  | false => simp only [Bool.false_and]
theorem bag_non {N : Nat} {s : Sl Γ} (h : isBag N s) : nonOwn s = false := by
  obtain ⟨i, j, k, e, _⟩ := h
  rw [e]
  rfl
theorem bag_nn {N : Nat} {s : Sl Γ} (h : isBag N s) : s ≠ .none := by
  obtain ⟨i, j, k, e, _⟩ := h
  rw [e]
  exact nofun
theorem len_at {env : Env Γ} {i : Nat} {s : Sl Γ} {ds : List G.D} (h : env[i]? = some s) (hs : isL s ds) : mN (pN1 pLen) [.brw i] env = some (.dat (.int (ds.length : Nat)), env) := by
  rcases hs with rfl | rfl <;> simp [mN, evAs, evA, h, got, peeks, peek, pN1, pLen, Sl.view, di]
theorem ix_at {ds : List G.D} {k : Nat} {d : G.D} (h : ds[k]? = some d) {s : Sl Γ} (hs : s.view = some (.lst ds)) : pIx (Γ := Γ) s (.dat (.int (k : Nat))) = some (.dat d) := by
  have lt : k < ds.length := (List.getElem?_eq_some_iff.mp h).1
  have a : atI ds (k : Int) = some d := by
    unfold atI ixN
    rw [if_pos (by omega), if_pos (by omega), Option.bind_some, Int.toNat_natCast, h]
  unfold pIx
  rw [hs]
  show (atI ds (k : Int)).map Sl.dat = _
  rw [a]
  rfl
theorem lay_bl (b : Bool) : lay 0 (.bl b) := by cases b <;> exact ⟨rfl, Nat.le_refl _⟩
theorem compL_all {α : Type} {vs : List Nat} {t : Eg Γ} {f : Ev Γ} {env : Env Γ} (h g : α → G.D) (as : List α) (st : ∀ a ∈ as, ∃ e1, t (h a) env = some e1 ∧ f e1 = some (.dat (g a), e1) ∧ wipeE vs e1 = some env) : compL vs t (fun env => some (true, env)) f (as.map h) env = some (as.map g, env) := by
  have := compL_fil (Γ := Γ) (vs := vs) (t := t) (tc := fun env => some (true, env)) (f := f) (env := env) h g (fun _ => true) as fun a ha => by
    obtain ⟨e1, h1, h2, h3⟩ := st a ha
    exact ⟨e1, h1, rfl, fun _ => h2, h3⟩
  rw [List.filter_eq_self.mpr fun _ _ => rfl] at this
  exact this
theorem eqRefl {d : G.D} (h : okD d = true) : eqD d d = true := PySem.SeqAt.eqv_refl _ (SeqAt.canLay_of_shaped h)
theorem max_xx {f g : Ev Γ} {env e1 e2 : Env Γ} {x y : Int} (hf : f env = some (.dat (.int x), e1)) (hg : g e1 = some (.dat (.int y), e2)) : mN (pN2 pMax2) [.ex f, .ex g] env = some (.dat (.int (max x y)), e2) := by
  have e : (if y > x then y else x) = max x y := by split <;> omega
  simp only [mN, evAs, evA, hf, hg, Option.map_some, peeks, peek, pN2, pMax2, p0, Sl.view, e]
theorem min_xx {f g : Ev Γ} {env e1 e2 : Env Γ} {x y : Int} (hf : f env = some (.dat (.int x), e1)) (hg : g e1 = some (.dat (.int y), e2)) : mN (pN2 pMin2) [.ex f, .ex g] env = some (.dat (.int (min x y)), e2) := by
  have e : (if y < x then y else x) = min x y := by split <;> omega
  simp only [mN, evAs, evA, hf, hg, Option.map_some, peeks, peek, pN2, pMin2, p0, Sl.view, e]
theorem if_t5 {c : Et Γ} {f h : Ev Γ} {env e1 : Env Γ} (z : c env = some (true, e1)) : mIf c f h env = f e1 := by unfold mIf; rw [z]
theorem if_f5 {c : Et Γ} {f h : Ev Γ} {env e1 : Env Γ} (z : c env = some (false, e1)) : mIf c f h env = h e1 := by unfold mIf; rw [z]
theorem ge_is {f g : Ev Γ} {env e1 e2 : Env Γ} {x y : Int} (hf : f env = some (.dat (.int x), e1)) (hg : g e1 = some (.dat (.int y), e2)) : ∃ b, toT (m2 pGe (.ex f) (.ex g)) env = some (b, e2) := ⟨_, toT_eq (m2_ex (p := pGe) hf hg rfl)⟩
theorem eval_bag (ns : List Int) (k : Nat) (hk : k ≤ 3) : ∃ s, isBag 0 s ∧ f_law_bag (Γ := Γ) [.scr ns, .dat (.int k)] = some (s, [.scr ns, .dat (.int k)]) := by
  obtain ⟨c, ec⟩ : ∃ c : Int, mIf (toT (m2 pLt (.brw 1) (.ex (mN (pN1 pLen) [.brw 0])))) (m2 pIx (.brw 0) (.brw 1)) (mC (.int 0)) ([.scr ns, .dat (.int k), .none, .none] : Env Γ) = some (.dat (.int c), [.scr ns, .dat (.int k), .none, .none]) := by
    have ct : toT (m2 pLt (.brw 1) (.ex (mN (pN1 pLen) [.brw 0]))) ([.scr ns, .dat (.int k), .none, .none] : Env Γ) = some (decide ((k : Int) < ns.length), [.scr ns, .dat (.int k), .none, .none]) := by
      simp [toT, m2, evA, mN, evAs, got, peeks, peek, pN1, pLen, pLt, pOrd, Sl.view, di, db]
    by_cases q : (k : Int) < ns.length
    · rw [decide_eq_true q] at ct
      have lt : k < ns.length := by omega
      refine ⟨ns[k], (if_t5 ct).trans ?_⟩
      have ix : atI (ns.map G.D.int) (k : Int) = some (.int ns[k]) := by
        unfold atI ixN
        rw [if_pos (by omega), if_pos (by rw [List.length_map]; exact q), Option.bind_some, Int.toNat_natCast, List.getElem?_map, List.getElem?_eq_getElem lt]
        rfl
      have p : pIx (Γ := Γ) (.scr ns) (.dat (.int k)) = some (.dat (.int ns[k])) := by
        unfold pIx
        simp only [Sl.view, ix, Option.map_some]
      simp only [m2, evA, List.getElem?_cons_succ, List.getElem?_cons_zero, got, Option.map_some, peek, p]
    · rw [decide_eq_false q] at ct
      exact ⟨0, (if_f5 ct).trans rfl⟩
  obtain ⟨d, ed⟩ : ∃ d : Int, mIf (toT (m2 pGe (.ex (mN (pN1 pAbs) [.brw 2])) (.ex (m2 pPow (.ex (mC (.int 10))) (.ex (mC (.int 18))))))) (mN (pN1 pAbs) [.brw 2]) (mC (.int 0)) ([.scr ns, .dat (.int k), .dat (.int c), .none] : Env Γ) = some (.dat (.int d), [.scr ns, .dat (.int k), .dat (.int c), .none]) := by
    have ab : mN (pN1 pAbs) [.brw 2] ([.scr ns, .dat (.int k), .dat (.int c), .none] : Env Γ) = some (.dat (.int (if c < 0 then -c else c)), [.scr ns, .dat (.int k), .dat (.int c), .none]) := by
      simp [mN, evAs, evA, got, peeks, peek, pN1, pAbs, Sl.view, di]
    have pw : m2 pPow (.ex (mC (.int 10))) (.ex (mC (.int 18))) ([.scr ns, .dat (.int k), .dat (.int c), .none] : Env Γ) = some (.dat (.int 1000000000000000000), [.scr ns, .dat (.int k), .dat (.int c), .none]) := by
      refine m2_ex (s := .dat (.int 10)) (t := .dat (.int 18)) rfl rfl ?_
      simp [mFun, mSeq, mIfS, toT, m1, m2, mN, evA, evAs, got, peek, peeks, pEq, pNe, pEqG, pLt, pLe, pGt, pGe, pOrd, pIx, Sl.view, mC, mVar, mRet, mNx, mSet, mDrop, mNotT, mNotE, mNotV, mAndT, mOrT, mAndV, mOrV, mIf, mT, truth, db, di, atI, ixN, okD_int, okD_bl, okD_non, eqD_int, eqD_str, eqD_bl, nonOwn, backE, List.replicate, mRetMv, mQ, evQ, getP, Fd.sl, pTupN, allDat, pN1, pN2, pI, cMod, cMul, cDiv, cPow, pMod, pMul, pDiv, pPow, pAdd, pSub, p0, pInt, pLen, mFrz, cPow]
    obtain ⟨b, ct⟩ := ge_is ab pw
    cases b with
    | true => exact ⟨_, (if_t5 ct).trans ab⟩
    | false => exact ⟨0, (if_f5 ct).trans rfl⟩
  have m0 : 0 ≤ c % 2305843009213693951 := Int.emod_nonneg _ (by decide)
  have m1 : c % 2305843009213693951 < 2305843009213693951 := Int.emod_lt_of_pos _ (by decide)
  refine ⟨bag d (c % 2305843009213693951 * 5 + 15485863 * k + 7001) 0, ⟨_, _, _, rfl, by omega, by omega, by omega, by omega⟩, ?_⟩
  unfold f_law_bag b_law_bag
  refine (fun_rt (e' := [.scr ns, .dat (.int k), .dat (.int c), .dat (.int d)]) rfl rfl ((seq_nx ((set_eq ec (by simp)).trans rfl)).trans ((seq_nx ((set_eq ed (by simp)).trans rfl)).trans (ret_eq ?_)))).trans rfl
  have h3 : (3 : Nat) ≤ sizeLine := by decide
  simp [mFun, mSeq, mIfS, toT, m1, m2, mN, evA, evAs, got, peek, peeks, pEq, pNe, pEqG, pLt, pLe, pGt, pGe, pOrd, pIx, Sl.view, mC, mVar, mRet, mNx, mSet, mDrop, mNotT, mNotE, mNotV, mAndT, mOrT, mAndV, mOrV, mIf, mT, truth, db, di, atI, ixN, okD_int, okD_bl, okD_non, eqD_int, eqD_str, eqD_bl, nonOwn, backE, List.replicate, mRetMv, mQ, evQ, getP, Fd.sl, pTupN, allDat, pN1, pN2, pI, cMod, cMul, cDiv, cPow, pMod, pMul, pDiv, pPow, pAdd, pSub, p0, pInt, pLen, mFrz, bag, pLstN, allDat, h3]
end
end K

set_option maxHeartbeats 400000
namespace K
open PySem L2 G Fam
def tD (p : P) : G.D := .tup (p.map .int)
def kD (p : P) : G.D := .tup [.int (p.length : Nat), tD p]
theorem toPys_ints : ∀ p : P, D.toPys (p.map G.D.int) = p.map PyData.int
  | [] => rfl
  | a :: p => by rw [List.map_cons, List.map_cons, D.toPys, D.toPy, toPys_ints p]
theorem alike_ints : ∀ p q : P, PySem.W.alikeAll (p.map .int) (q.map .int) = true
  | [], q => by rw [List.map_nil, PySem.W.alikeAll]
  | a :: p, [] => by rw [List.map_nil, List.map_cons, PySem.W.alikeAll]
  | a :: p, b :: q => by
    rw [List.map_cons, List.map_cons, PySem.W.alikeAll, alike_ints p q, PySem.W.alike]
    rfl
def rlt (p q : P) : Bool := PyProof.Rows.lexLt PyProof.Rows.itemOrd (PySem.W.keyToksAll (p.map .int)) (PySem.W.keyToksAll (q.map .int))
theorem eqv_int (a b : Int) : PyData.eqv (.int a) (.int b) = decide (a = b) := by simp only [PyData.eqv]; rw [Bool.beq_eq_decide_eq]
theorem rlt_lex : ∀ p q : P, (!rlt q p) = lexle p q
  | [], [] => by
    have : rlt [] [] = false := PyProof.Rows.lex_irrefl _
    rw [this]
    rfl
  | [], b :: q => by
    have : rlt (b :: q) [] = false := by
      unfold rlt
      rw [List.map_cons, List.map_nil, PySem.W.keyToksAll, PySem.W.keyToksAll, PyProof.Rows.lex_diff (by simp)]
      decide
    rw [this]
    rfl
  | a :: p, [] => by
    have : rlt [] (a :: p) = true := by
      unfold rlt
      rw [List.map_cons, List.map_nil, PySem.W.keyToksAll, PySem.W.keyToksAll, PyProof.Rows.lex_diff (by simp)]
      decide
    rw [this]
    rfl
  | a :: p, b :: q => by
    have h : rlt (b :: q) (a :: p) = if decide (b = a) = true then rlt q p else decide (b < a) := by
      unfold rlt
      rw [List.map_cons, List.map_cons, PySem.W.dataLt_cons (by rw [PySem.W.alike]), eqv_int, PySem.W.dataLt_int]
    rw [h, lexle, ← rlt_lex p q]
    by_cases e : b = a
    · subst e
      simp
    · rw [if_neg (by simpa using e)]
      by_cases l : b < a
      · have : ¬ a < b := by omega
        have : a ≠ b := fun z => e z.symm
        simp [*]
      · have : a < b := by omega
        simp [*]
theorem dataLt_tups (p q : P) : PySem.W.dataLt (.tuple (p.map .int)) (.tuple (q.map .int)) = rlt p q := rfl
theorem leD_key (p q : P) : leD (kD p) (kD q) = tle p q := by
  have e : ∀ r : P, (kD r).toPy = .tuple [.int (r.length : Nat), .tuple (r.map .int)] := fun r => by
    unfold kD tD
    rw [D.toPy, D.toPys, D.toPys, D.toPys, D.toPy, D.toPy, toPys_ints]
  have h : leD (kD p) (kD q) = !PySem.W.dataLt (kD q).toPy (kD p).toPy := rfl
  rw [h, e, e]
  have h2 : PySem.W.dataLt (.tuple [.int (q.length : Nat), .tuple (q.map .int)]) (.tuple [.int (p.length : Nat), .tuple (p.map .int)]) = if decide ((q.length : Int) = p.length) = true then rlt q p else decide ((q.length : Int) < p.length) := by
    show PyProof.Rows.lexLt PyProof.Rows.itemOrd (PySem.W.keyToksAll _) (PySem.W.keyToksAll _) = _
    rw [PySem.W.dataLt_cons (by rw [PySem.W.alike]), eqv_int, PySem.W.dataLt_int, PySem.W.dataLt_cons (by rw [PySem.W.alike]; exact alike_ints q p), dataLt_tups]
    cases ev : PyData.eqv (.tuple (q.map .int)) (.tuple (p.map .int)) with
    | false => rfl
    | true =>
      have : q = p := by
        have z := eq_tints q p
        unfold eqD at z
        rw [D.toPy, D.toPy, toPys_ints, toPys_ints, ev] at z
        exact of_decide_eq_true z.symm
      subst this
      have i1 : rlt q q = false := PyProof.Rows.lex_irrefl _
      rw [i1, PyProof.Rows.lex_irrefl]
      simp
  rw [h2]
  unfold tle
  rw [← rlt_lex]
  by_cases l : q.length = p.length
  · rw [l]
    simp
  · rw [if_neg (by simp; omega)]
    by_cases m : p.length < q.length
    · simp [m]
      omega
    · have : q.length < p.length := by omega
      have : ¬ p.length = q.length := fun z => l z.symm
      simp [*]
theorem lay_tD (p : P) : lay 1 (tD p) := lay_tup (lay_ints p)
theorem lay_kD (p : P) : lay 2 (kD p) := lay_tup (k := 1) fun d hd => by
  simp only [List.mem_cons, List.not_mem_nil, or_false] at hd
  rcases hd with rfl | rfl
  · exact lay_mono (lay_int _) (by decide)
  · exact lay_tD p
theorem okSort_keys (F : List P) (hl : F.length ≤ sizeLine) : okSort (F.map kD) = true := by
  refine okSort_iff.mpr ⟨fun a ha b hb => ?_, .inl fun a ha => ?_, fun a ha => ?_, (lay_all (k := 2) _ fun d hd => ?_).1, by rw [List.length_map]; exact hl⟩
  · obtain ⟨p, _, rfl⟩ := List.mem_map.mp ha
    obtain ⟨q, _, rfl⟩ := List.mem_map.mp hb
    unfold kD tD
    simp only [D.toPy, D.toPys, toPys_ints, PySem.W.alike, PySem.W.alikeAll, alike_ints, Bool.and_self]
  · obtain ⟨p, _, rfl⟩ := List.mem_map.mp ha
    rfl
  · obtain ⟨p, _, rfl⟩ := List.mem_map.mp ha
    exact Nat.le_trans (lay_kD p).2 (by decide)
  · obtain ⟨p, _, rfl⟩ := List.mem_map.mp hd
    exact lay_kD p
theorem flk_ints : ∀ p : P, flks (p.map G.D.int) = true
  | [] => rfl
  | a :: p => by rw [List.map_cons, flks, flk, flk_ints p]; rfl
theorem flk_tD (p : P) : flk (tD p) = true := by unfold tD; rw [flk]; exact flk_ints p
theorem flk_kD (p : P) : flk (kD p) = true := by
  unfold kD
  rw [flk, flks, flks, flks, flk_tD, flk]
  rfl
section
variable {Γ : Gam}
theorem eval_key (p : P) : f_told_key (Γ := Γ) [.dat (tD p)] = some (.dat (kD p), [.dat (tD p)]) := by
  have h2 : (2 : Nat) ≤ sizeLine := by decide
  have ln : mN (pN1 pLen) [.brw 0] ([.dat (tD p)] : Env Γ) = some (.dat (.int (p.length : Nat)), [.dat (tD p)]) := by
    simp [mN, evAs, evA, got, peeks, peek, pN1, pLen, Sl.view, di, tD]
  have fl := frz_dat ln
  refine fun_rt (args := [.dat (tD p)]) (np := 1) (loc := 0) (A := []) (e' := [.dat (tD p)]) (s := .dat (kD p)) rfl rfl (ret_eq ?_)
  have v : mVar (Γ := Γ) 0 [.dat (tD p)] = some (.dat (tD p), [.dat (tD p)]) := rfl
  show mN pTupN [.ex (mFrz (mN (pN1 pLen) [.brw 0])), .ex (mVar 0)] ([.dat (tD p)] : Env Γ) = _
  simp only [mN, evAs, evA, fl, v, Option.map_some, peeks, peek]
  simp [pTupN, allDat, h2, kD]
theorem keyO_eq (p : P) : keyO (f_told_key (Γ := Γ)) (tD p) = some (kD p) := by unfold keyO; rw [eval_key]
theorem keyK_eq (p : P) : keyK (f_told_key (Γ := Γ)) (tD p) = kD p := by unfold keyK; rw [keyO_eq]; rfl
/-- sorted(xs, key=told_key) -/
theorem sortK_eq {s : Sl Γ} {F : List P} (hs : s.view = some (.lst (F.map tD))) (hl : F.length ≤ sizeLine) : pSortK (f_told_key (Γ := Γ)) s = some (.lst ((F.mergeSort tle).map tD)) := by
  unfold pSortK
  rw [hs]
  have a : ((F.map tD).all fun d => flk d && (keyO (f_told_key (Γ := Γ)) d).isSome && flk (keyK (f_told_key (Γ := Γ)) d)) = true := List.all_eq_true.mpr fun d hd => by
    obtain ⟨p, _, rfl⟩ := List.mem_map.mp hd
    rw [keyO_eq, keyK_eq, flk_tD, flk_kD]
    rfl
  have b : okSort ((F.map tD).map (keyK (f_told_key (Γ := Γ)))) = true := by
    rw [List.map_map]
    have : (keyK (f_told_key (Γ := Γ))) ∘ tD = kD := funext fun p => keyK_eq p
    rw [this]
    exact okSort_keys F hl
  simp only
  rw [if_pos ⟨a, b⟩]
  have c : (F.map tD).mergeSort (fun a b => leD (keyK (f_told_key (Γ := Γ)) a) (keyK (f_told_key (Γ := Γ)) b)) = (F.mergeSort tle).map tD := (List.map_mergeSort (r := tle) fun a _ b _ => by rw [keyK_eq, keyK_eq, leD_key]).symm
  rw [c]
/-- [p for _, p in sorted([(len(p), p) ..])] -/
theorem sortD_eq {F : List P} (hl : F.length ≤ sizeLine) : pSortD (Γ := Γ) (.lst (F.map kD)) = some (.lst ((F.mergeSort tle).map kD)) := by
  have : (F.map kD).mergeSort leD = (F.mergeSort tle).map kD := (List.map_mergeSort (r := tle) fun a _ b _ => by rw [leD_key]).symm
  unfold pSortD
  simp only [Sl.view, okSort_keys F hl, if_true, this]
end
end K

set_option maxHeartbeats 400000
namespace K
open PySem L2 G Fam
section
variable {Γ : Gam}
theorem call_dd {f : Fn Γ} {env : Env Γ} {i j : Nat} {a b : G.D} {r : Sl Γ} (hi : env[i]? = some (.dat a)) (hj : env[j]? = some (.dat b)) (he : f [.dat a, .dat b] = some (r, [.dat a, .dat b])) : mCall 2 f [.brw i, .brw j] env = some (r, env) := by
  simp [mCall, evAs, evA, hi, hj, got, takeA, nonOwn, he, putA]
theorem all_bl {env e1 : Env Γ} {f : Ev Γ} {bs : List Bool} (h : f env = some (.lst (bs.map G.D.bl), e1)) : mN (pN1 pAll) [.ex f] env = some (.dat (.bl (bs.all id)), e1) := by
  simp only [mN, evAs, evA, h, Option.map_some, peeks, peek, pN1, pAll, pBools, Sl.view, allBl_map, db]
theorem any_bl {env e1 : Env Γ} {f : Ev Γ} {bs : List Bool} (h : f env = some (.lst (bs.map G.D.bl), e1)) : mN (pN1 pAny) [.ex f] env = some (.dat (.bl (bs.any id)), e1) := by
  simp only [mN, evAs, evA, h, Option.map_some, peeks, peek, pN1, pAny, pBools, Sl.view, allBl_map, db]
theorem m2_bb {p : Sl Γ → Sl Γ → Option (Sl Γ)} {env : Env Γ} {i j : Nat} {s t u : Sl Γ} (hi : env[i]? = some s) (hj : env[j]? = some t) (hs : got (some s) = some s) (ht : got (some t) = some t) (h : p s t = some u) : m2 p (.brw i) (.brw j) env = some (u, env) := by
  simp only [m2, evA, hi, hj, hs, ht, Option.map_some, peek, h]
theorem in_tD {env : Env Γ} {i j : Nat} {x : Int} {q : P} (hi : env[i]? = some (.dat (.int x))) (hj : env[j]? = some (.dat (tD q))) : m2 pIn (.brw i) (.brw j) env = some (.dat (.bl (decide (x ∈ q))), env) :=
  m2_bb hi hj rfl rfl (in_tints (g := id) (s := .dat (tD q)) (ns := q) (n := x) rfl)
theorem nin_tD {env : Env Γ} {i j : Nat} {x : Int} {q : P} (hi : env[i]? = some (.dat (.int x))) (hj : env[j]? = some (.dat (tD q))) : m2 pNotIn (.brw i) (.brw j) env = some (.dat (.bl (!decide (x ∈ q))), env) :=
  m2_bb hi hj rfl rfl (in_tints (g := not) (s := .dat (tD q)) (ns := q) (n := x) rfl)
theorem in_each {p q : P} (hp : p.length ≤ 1000) : mLc (iSeq (mVar 0)) [2] (gNm 2) (fun env => some (true, env)) (m2 pIn (.brw 2) (.brw 1)) ([.dat (tD p), .dat (tD q), .none] : Env Γ) = some (.lst ((p.map fun x => decide (x ∈ q)).map .bl), [.dat (tD p), .dat (tD q), .none]) := by
  have c := compL_all (Γ := Γ) (vs := [2]) (t := gNm 2) (f := m2 pIn (.brw 2) (.brw 1)) (env := [.dat (tD p), .dat (tD q), .none]) G.D.int (fun x => .bl (decide (x ∈ q))) p fun x _ =>
    ⟨[.dat (tD p), .dat (tD q), .dat (.int x)], rfl, in_tD rfl rfl, rfl⟩
  have l := lc_eq (fi := iSeq (mVar 0)) (env := [.dat (tD p), .dat (tD q), .none]) (ds := p.map .int) rfl (by rw [List.length_map]; exact big hp) (e2 := [.dat (tD p), .dat (tD q), .none]) rfl c
  rw [List.map_map]
  exact l.trans rfl
theorem eval_part {p q : P} (hp : p.length ≤ 1000) : f_is_part (Γ := Γ) [.dat (tD p), .dat (tD q)] = some (.dat (.bl (subB p q)), [.dat (tD p), .dat (tD q)]) := by
  have a := all_bl (in_each (Γ := Γ) (p := p) (q := q) hp)
  have e : (p.map fun x => decide (x ∈ q)).all id = subB p q := by rw [List.all_map]; rfl
  rw [e] at a
  exact fun_rt (args := [.dat (tD p), .dat (tD q)]) (np := 2) (loc := 1) (A := []) rfl rfl (ret_eq a)
theorem eval_shares {p q : P} (hp : p.length ≤ 1000) : f_shares (Γ := Γ) [.dat (tD p), .dat (tD q)] = some (.dat (.bl (shr p q)), [.dat (tD p), .dat (tD q)]) := by
  have a := any_bl (in_each (Γ := Γ) (p := p) (q := q) hp)
  exact fun_rt (args := [.dat (tD p), .dat (tD q)]) (np := 2) (loc := 1) (A := []) rfl rfl (ret_eq a)
theorem lst_nil {env : Env Γ} : mN pLstN [] env = some (.lst [], env) := by
  have h0 : (0 : Nat) ≤ sizeLine := by decide
  simp [mN, evAs, peeks, pLstN, allDat, h0]
theorem eq_nil {ds : List G.D} (hk : okD (.lst ds) = true) {t : Sl Γ} (ht : t.view = some (.lst [])) : pEq (Γ := Γ) (.lst ds) t = some (.dat (.bl (decide (ds = [])))) := by
  have o : okD (.lst []) = true := by decide +kernel
  have e : eqD (.lst ds) (.lst []) = decide (ds = []) := by
    cases ds with
    | nil => rfl
    | cons d ds => simp [eqD, D.toPy, D.toPys, PyData.eqv, PyData.eqvAll]
  unfold pEq pEqG
  have hv : (Sl.lst (Γ := Γ) ds).view = some (.lst ds) := rfl
  simp only [hv, ht, hk, o, Bool.and_self, if_true, e, id, db]
theorem ne_nil {ds : List G.D} (hk : okD (.lst ds) = true) {t : Sl Γ} (ht : t.view = some (.lst [])) : pNe (Γ := Γ) (.lst ds) t = some (.dat (.bl (!decide (ds = [])))) := by
  have o : okD (.lst []) = true := by decide +kernel
  have e : eqD (.lst ds) (.lst []) = decide (ds = []) := by
    cases ds with
    | nil => rfl
    | cons d ds => simp [eqD, D.toPy, D.toPys, PyData.eqv, PyData.eqvAll]
  unfold pNe pEqG
  have hv : (Sl.lst (Γ := Γ) ds).view = some (.lst ds) := rfl
  simp only [hv, ht, hk, o, Bool.and_self, if_true, e, db]
theorem ok_ints (p : P) : okD (.lst (p.map .int)) = true := okD_ints p
theorem ok_fam (F : List P) : okD (.lst (F.map tD)) = true := lay_ok (k := 2) (lay_lst fun d hd => by
  obtain ⟨p, _, rfl⟩ := List.mem_map.mp hd
  exact lay_tD p) (by decide)
theorem map_nil_iff {α β : Type} {f : α → β} {l : List α} : decide (l.map f = []) = decide (l = []) := by cases l <;> simp
theorem eval_inside {p q : P} (hp : p.length ≤ 1000) : f_law_inside (Γ := Γ) [.dat (tD p), .dat (tD q)] = some (.dat (.bl (subB p q)), [.dat (tD p), .dat (tD q)]) := by
  have c := fil_comp (Γ := Γ) [2] (fun x => !decide (x ∈ q)) (gNm 2) (toT (m2 pNotIn (.brw 2) (.brw 1))) (mVar 2) [.dat (tD p), .dat (tD q), .none] (fun x => ⟨[.dat (tD p), .dat (tD q), .dat (.int x)], rfl, toT_eq (nin_tD rfl rfl), rfl, rfl⟩) p
  have l := lc_eq (fi := iSeq (mVar 0)) (env := [.dat (tD p), .dat (tD q), .none]) (ds := p.map .int) rfl (by rw [List.length_map]; exact big hp) (e2 := [.dat (tD p), .dat (tD q), .none]) rfl c
  have r := m2_ex (l.trans rfl) lst_nil (eq_nil (ok_ints (p.filter fun x => !decide (x ∈ q))) (t := .lst []) rfl)
  have e : decide ((p.filter fun x => !decide (x ∈ q)).map G.D.int = []) = subB p q := by
    rw [map_nil_iff, Bool.eq_iff_iff, decide_eq_true_iff, List.filter_eq_nil_iff, subB_iff]
    constructor
    · intro h x hx
      have := h x hx
      simpa using this
    · intro h x hx z
      have := h x hx
      simp [this] at z
  rw [e] at r
  exact fun_rt (args := [.dat (tD p), .dat (tD q)]) (np := 2) (loc := 1) (A := []) rfl rfl (ret_eq r)
end
end K

set_option maxHeartbeats 400000
namespace K
open PySem L2 G Fam
section
variable {Γ : Gam}
abbrev fD (F : List P) : G.D := .lst (F.map tD)
def isF (s : Sl Γ) (F : List P) : Prop := isL s (F.map tD)
theorem eval_meets {p : P} {F : List P} {s : Sl Γ} (hs : isF s F) (hp : p.length ≤ 1000) (hF : ∀ f ∈ F, f.length ≤ 1000) (hl : F.length ≤ 1000) : f_law_meets (Γ := Γ) [.dat (tD p), s] = some (.dat (.bl (hitsB F p)), [.dat (tD p), .dat (fD F)]) := by
  have c := compL_fil (Γ := Γ) (vs := [2]) (t := gNm 2) (tc := toT (m2 pEq (.ex (mLc (iSeq (mVar 2)) [3] (gNm 3) (toT (m2 pIn (.brw 3) (.brw 0))) (mVar 3))) (.ex (mN pLstN [])))) (f := mVar 2) (env := [.dat (tD p), .dat (fD F), .none, .none]) tD tD (fun one => decide ((one.filter fun x => decide (x ∈ p)) = [])) F fun f hf => by
    refine ⟨[.dat (tD p), .dat (fD F), .dat (tD f), .none], rfl, toT_eq ?_, fun _ => rfl, rfl⟩
    have c := fil_comp (Γ := Γ) [3] (fun x => decide (x ∈ p)) (gNm 3) (toT (m2 pIn (.brw 3) (.brw 0))) (mVar 3) [.dat (tD p), .dat (fD F), .dat (tD f), .none] (fun x => ⟨[.dat (tD p), .dat (fD F), .dat (tD f), .dat (.int x)], rfl, toT_eq (in_tD rfl rfl), rfl, rfl⟩) f
    have l := lc_eq (fi := iSeq (mVar 2)) (env := [.dat (tD p), .dat (fD F), .dat (tD f), .none]) (ds := f.map .int) rfl (by rw [List.length_map]; exact big (hF f hf)) (e2 := [.dat (tD p), .dat (fD F), .dat (tD f), .none]) rfl c
    have r := m2_ex (l.trans rfl) lst_nil (eq_nil (ok_ints (f.filter fun x => decide (x ∈ p))) (t := .lst []) rfl)
    rw [map_nil_iff] at r
    exact r
  have it := hs.seq (env := [.dat (tD p), s, .none, .none]) (i := 1) rfl
  have l := lc_eq it (by rw [List.length_map]; exact big hl) (e2 := [.dat (tD p), .dat (fD F), .none, .none]) rfl c
  have r := m2_ex (l.trans rfl) lst_nil (eq_nil (ok_fam (F.filter fun one => decide ((one.filter fun x => decide (x ∈ p)) = []))) (t := .lst []) rfl)
  rw [map_nil_iff] at r
  have e : backE ([.dat (tD p), .dat (fD F), .none, .none] : Env Γ) [.dat (tD p), .dat (fD F), .none, .none] [2] = [.dat (tD p), .dat (fD F), .none, .none] := rfl
  exact fun_rt (args := [.dat (tD p), s]) (np := 2) (loc := 2) (A := []) (e' := [.dat (tD p), .dat (fD F), .none, .none]) rfl rfl (ret_eq r)
theorem nol_tD (p : P) : nol (tD p) = true := by
  have : ∀ p : P, nols (p.map G.D.int) = true := fun p => by
    induction p with
    | nil => rfl
    | cons a p ih => rw [List.map_cons, nols, ih]; rfl
  unfold tD
  rw [nol]
  exact this p
theorem nols_fam : ∀ F : List P, nols (F.map tD) = true
  | [] => rfl
  | f :: F => by rw [List.map_cons, nols, nol_tD, nols_fam F]; rfl
theorem lendN_s {s : Sl Γ} {F : List P} (hs : isF s F) : lendOkN s = true := by
  rcases hs with rfl | rfl
  · exact nols_fam F
  · rfl
theorem mT_ex {f : Ev Γ} {env e1 : Env Γ} {b : Bool} (h : f env = some (.dat (.bl b), e1)) : mT (.ex f) env = some (b, e1) := by
  unfold mT
  simp only [evA, h, Option.map_some, peek]
  rfl
theorem not_eq {c : Et Γ} {env e1 : Env Γ} {b : Bool} (h : c env = some (b, e1)) : mNotT c env = some (!b, e1) := by
  unfold mNotT
  rw [h]
  rfl
noncomputable abbrev LOB : Es Γ := mIfS (mNotT (mT (.ex (mLendN 1 (mN (pN1 pAny) [.ex (mLc (iSeq (mVar 1)) [3] (gNm 3) (fun env => some (true, env)) (mFrz (mCall 2 f_is_part [.brw 3, .brw 2])))]))))) (mDrop (mMut 1 uAppend [.ex (mVar 2)])) (mNx)
theorem app_eq {env : Env Γ} {i j : Nat} {ds : List G.D} {d : G.D} (hi : env[i]? = some (.lst ds)) (hj : env[j]? = some (.dat d)) (hl : ds.length < 1000) : mDrop (mMut i uAppend [.ex (mVar j)]) env = some (.nx, env.set i (.lst (ds ++ [d]))) := by
  have v : mVar j env = some (.dat d, env) := by simp [mVar, hj]
  have ap : uAppend (Γ := Γ) ds [.dat d] = some (.non, ds ++ [d]) := by
    show (if ds.length < sizeLine then some (G.D.non, ds ++ [d]) else none) = _
    rw [if_pos (Nat.lt_of_lt_of_le hl (by decide))]
  simp only [mDrop, mMut, evAs, evA, v, Option.map_some, hi, peeks, peek, ap]
theorem lo_turn {s : Sl Γ} {F found : List P} {m : P} (hs : isF s F) (hl : found.length < 1000) (hf : ∀ f ∈ found, f.length ≤ 1000) : LOB [s, .lst (found.map tD), .dat (tD m), .none] = some (.nx, [s, .lst ((if (found.map fun f => subB f m).any id = true then found else found ++ [m]).map tD), .dat (tD m), .none]) := by
  have c := compL_all (Γ := Γ) (vs := [3]) (t := gNm 3) (f := mFrz (mCall 2 f_is_part [.brw 3, .brw 2])) (env := [s, .dat (fD found), .dat (tD m), .none]) tD (fun f => .bl (subB f m)) found fun f hf' =>
    ⟨[s, .dat (fD found), .dat (tD m), .dat (tD f)], rfl, frz_dat (call_dd rfl rfl (eval_part (hf f hf'))), rfl⟩
  have l := lc_eq (fi := iSeq (mVar 1)) (env := [s, .dat (fD found), .dat (tD m), .none]) (ds := found.map tD) rfl (by rw [List.length_map]; exact big (by omega)) (e2 := [s, .dat (fD found), .dat (tD m), .none]) rfl c
  have l : mLc (iSeq (mVar 1)) [3] (gNm 3) (fun env => some (true, env)) (mFrz (mCall 2 f_is_part [.brw 3, .brw 2])) [s, .dat (fD found), .dat (tD m), .none] = some (.lst ((found.map fun f => subB f m).map .bl), [s, .dat (fD found), .dat (tD m), .none]) := by
    rw [List.map_map]
    exact l
  have a := any_bl l
  have le := lendN_eq (i := 1) (env := [s, .lst (found.map tD), .dat (tD m), .none]) (ds := found.map tD) rfl a rfl (by
    show (([s, .none, .dat (tD m), .none] : Env Γ)).all lendOkN = true
    rw [List.all_cons, lendN_s hs]
    rfl)
  have t := not_eq (mT_ex le)
  cases e : (found.map fun f => subB f m).any id with
  | true =>
    rw [e] at t
    rw [if_pos rfl]
    exact (ifs_f t).trans rfl
  | false =>
    rw [e] at t
    rw [if_neg (by simp)]
    refine (ifs_t t).trans ((app_eq (i := 1) (j := 2) (ds := found.map tD) (d := tD m) rfl rfl (by rw [List.length_map]; exact hl)).trans ?_)
    rw [List.map_append]
    rfl
theorem lo_loop {s : Sl Γ} {F : List P} (hs : isF s F) : ∀ (S found : List P) (v2 : Sl Γ), found.length + S.length < 1000 → (∀ f ∈ found, f.length ≤ 1000) → (∀ f ∈ S, f.length ≤ 1000) → ∃ v2', forL (gNm 2) LOB (S.map tD) [s, .lst (found.map tD), v2, .none] = some (.nx, [s, .lst ((lst1 found S).map tD), v2', .none])
  | [], found, v2, _, _, _ => ⟨v2, rfl⟩
  | m :: S, found, v2, hl, hf, hS => by
    rw [List.length_cons] at hl
    have t := lo_turn (Γ := Γ) (m := m) hs (by omega) hf
    obtain ⟨v2', q⟩ := lo_loop hs S (if (found.map fun f => subB f m).any id = true then found else found ++ [m]) (.dat (tD m)) (by
      split
      · omega
      · rw [List.length_append, List.length_singleton]; omega) (by
      split
      · exact hf
      · intro f hf'
        rcases List.mem_append.mp hf' with z | z
        · exact hf f z
        · rw [List.mem_singleton.mp z]; exact hS m List.mem_cons_self) fun f hf' => hS f (List.mem_cons_of_mem _ hf')
    refine ⟨v2', ?_⟩
    rw [List.map_cons]
    exact (forL_nx1 (e1 := [s, .lst (found.map tD), .dat (tD m), .none]) rfl t).trans q
theorem eval_least {s : Sl Γ} {F : List P} (hs : isF s F) (hl : F.length < 1000) (hF : ∀ f ∈ F, f.length ≤ 1000) : f_least_of (Γ := Γ) [s] = some (.lst ((least F).map tD), [s]) := by
  have ls : mN (pN1 pList) [.brw 0] ([s, .lst [], .none, .none] : Env Γ) = some (.lst (F.map tD), [s, .lst [], .none, .none]) := by
    rcases hs with rfl | rfl <;> simp [mN, evAs, evA, got, peeks, peek, pN1, pList, Sl.view]
  have st : m1 (pSortK f_told_key) (.ex (mN (pN1 pList) [.brw 0])) ([s, .lst [], .none, .none] : Env Γ) = some (.lst ((F.mergeSort tle).map tD), [s, .lst [], .none, .none]) := m1_ex ls (sortK_eq rfl (big (by omega)))
  have it : iSeq (mFrz (m1 (pSortK f_told_key) (.ex (mN (pN1 pList) [.brw 0])))) ([s, .lst [], .none, .none] : Env Γ) = some ((F.mergeSort tle).map tD, [s, .lst [], .none, .none]) := by
    unfold iSeq
    rw [frz_lst st]
  have pm := List.mergeSort_perm F tle
  obtain ⟨v2', lp⟩ := lo_loop (Γ := Γ) hs (F.mergeSort tle) [] .none (by rw [pm.length_eq, List.length_nil]; omega) (fun f hf => by cases hf) fun f hf => hF f (pm.mem_iff.mp hf)
  have q := for_eq it lp
  have q0 : mSet 1 (mN pLstN []) ([s, .none, .none, .none] : Env Γ) = some (.nx, [s, .lst [], .none, .none]) := (set_eq lst_nil (by show 1 < 4; decide)).trans rfl
  exact fun_rt (args := [s]) (np := 1) (loc := 3) (A := [1, 2]) (e' := [s, .none, v2', .none]) rfl rfl ((seq_nx q0).trans ((seq_nx q).trans rfl))
end
end K

set_option maxHeartbeats 400000
namespace K
open PySem L2 G Fam
section
variable {Γ : Gam}
theorem shr_call {env : Env Γ} {i j : Nat} {p q : P} (hi : env[i]? = some (.dat (tD p))) (hj : env[j]? = some (.dat (tD q))) (hp : p.length ≤ 1000) : mT (.ex (mCall 2 f_shares [.brw i, .brw j])) env = some (shr p q, env) := mT_ex (call_dd hi hj (eval_shares hp))
/-- tuple(sorted([*row, number])) -/
theorem star_srt {env : Env Γ} {i j : Nat} {p : P} {x : Int} (hi : env[i]? = some (.dat (tD p))) (hj : env[j]? = some (.dat (.int x))) (hp : p.length < 1000) : mN (pN1 pTuple) [.ex (mN (pN1 pSorted) [.ex (mStarE (mVar i) (mVar j))])] env = some (.dat (tD (srt (p ++ [x]))), env) := by
  have vi : mVar i env = some (.dat (tD p), env) := by simp [mVar, hi]
  have vj : mVar j env = some (.dat (.int x), env) := by simp [mVar, hj]
  have st : mStarE (mVar i) (mVar j) env = some (.lst ((p ++ [x]).map .int), env) := by
    have l : (p.map G.D.int).length + 1 ≤ sizeLine := by rw [List.length_map]; exact big (by omega)
    unfold mStarE
    rw [vi]
    simp only [tD, vj, l, if_true, List.map_append]
    rfl
  have so : mN (pN1 pSorted) [.ex (mStarE (mVar i) (mVar j))] env = some (.lst ((srt (p ++ [x])).map .int), env) := by
    simp only [mN, evAs, evA, st, Option.map_some, peeks, peek, pN1, pSorted, Sl.view, allInt_map]
    rfl
  exact tup_ints so
noncomputable abbrev BLI : Es Γ := mIfS (mNotT (mT (.ex (mCall 2 f_shares [.brw 4, .brw 2])))) (mDrop (mMut 3 uExtend [.ex (mFrz (mLc (iSeq (mVar 2)) [5] (gNm 5) (fun env => some (true, env)) (mFrz (mN (pN1 pTuple) [.ex (mN (pN1 pSorted) [.ex (mStarE (mVar 4) (mVar 5))])]))))])) (mNx)
theorem bl_inner {s a1 : Sl Γ} {m row : P} {gr : List P} (hm : m.length ≤ 100) (hr : row.length ≤ 100) (hg : gr.length ≤ 9000) : BLI [s, a1, .dat (tD m), .lst (gr.map tD), .dat (tD row), .none] = some (.nx, [s, a1, .dat (tD m), .lst ((gr ++ if (!shr row m) = true then m.map (fun x => srt (row ++ [x])) else []).map tD), .dat (tD row), .none]) := by
  have t := not_eq (shr_call (Γ := Γ) (env := [s, a1, .dat (tD m), .lst (gr.map tD), .dat (tD row), .none]) (i := 4) (j := 2) (p := row) (q := m) rfl rfl (by omega))
  cases e : shr row m with
  | true =>
    rw [e] at t
    rw [if_neg (by simp), List.append_nil]
    exact (ifs_f t).trans rfl
  | false =>
    rw [e] at t
    rw [if_pos (by rfl)]
    have c := compL_all (Γ := Γ) (vs := [5]) (t := gNm 5) (f := mFrz (mN (pN1 pTuple) [.ex (mN (pN1 pSorted) [.ex (mStarE (mVar 4) (mVar 5))])])) (env := [s, a1, .dat (tD m), .lst (gr.map tD), .dat (tD row), .none]) G.D.int (fun x => tD (srt (row ++ [x]))) m fun x _ =>
      ⟨[s, a1, .dat (tD m), .lst (gr.map tD), .dat (tD row), .dat (.int x)], rfl, frz_dat (star_srt rfl rfl (by omega)), rfl⟩
    have l := lc_eq (fi := iSeq (mVar 2)) (env := [s, a1, .dat (tD m), .lst (gr.map tD), .dat (tD row), .none]) (ds := m.map .int) rfl (by rw [List.length_map]; exact big (by omega)) (e2 := [s, a1, .dat (tD m), .lst (gr.map tD), .dat (tD row), .none]) rfl c
    have l : mLc (iSeq (mVar 2)) [5] (gNm 5) (fun env => some (true, env)) (mFrz (mN (pN1 pTuple) [.ex (mN (pN1 pSorted) [.ex (mStarE (mVar 4) (mVar 5))])])) [s, a1, .dat (tD m), .lst (gr.map tD), .dat (tD row), .none] = some (.lst ((m.map fun x => srt (row ++ [x])).map tD), [s, a1, .dat (tD m), .lst (gr.map tD), .dat (tD row), .none]) := by
      rw [List.map_map]
      exact l
    have fl := frz_lst l
    have ex : uExtend (Γ := Γ) (gr.map tD) [.dat (.lst ((m.map fun x => srt (row ++ [x])).map tD))] = some (.non, (gr ++ m.map fun x => srt (row ++ [x])).map tD) := by
      have h : (gr.map tD).length + ((m.map fun x => srt (row ++ [x])).map tD).length ≤ sizeLine := by
        rw [List.length_map, List.length_map, List.length_map]
        exact Nat.le_trans (by omega : _ ≤ 9100) (by decide)
      show (if (gr.map tD).length + ((m.map fun x => srt (row ++ [x])).map tD).length ≤ sizeLine then _ else none) = _
      rw [if_pos h, List.map_append]
    refine (ifs_t t).trans ?_
    simp only [mDrop, mMut, evAs, evA, fl, Option.map_some, List.getElem?_cons_succ, List.getElem?_cons_zero, peeks, peek, ex, List.set_cons_succ, List.set_cons_zero]
theorem bl_loop {s a1 : Sl Γ} {m : P} (hm : m.length ≤ 100) : ∀ (rows gr : List P) (v4 : Sl Γ), (∀ r ∈ rows, r.length ≤ 100) → gr.length + 100 * rows.length ≤ 9000 → nonOwn v4 = true → ∃ v4', nonOwn v4' = true ∧ forL (gNm 4) BLI (rows.map tD) [s, a1, .dat (tD m), .lst (gr.map tD), v4, .none] = some (.nx, [s, a1, .dat (tD m), .lst ((gr ++ (rows.filter fun row => !shr row m).flatMap fun row => m.map fun x => srt (row ++ [x])).map tD), v4', .none])
  | [], gr, v4, _, _, h4 => ⟨v4, h4, by rw [List.filter_nil, List.flatMap_nil, List.append_nil]; rfl⟩
  | row :: rows, gr, v4, hr, hl, h4 => by
    rw [List.length_cons] at hl
    have t := bl_inner (Γ := Γ) (s := s) (a1 := a1) (m := m) (row := row) (gr := gr) hm (hr row List.mem_cons_self) (by omega)
    obtain ⟨v4', n4, q⟩ := bl_loop hm rows (gr ++ if (!shr row m) = true then m.map (fun x => srt (row ++ [x])) else []) (.dat (tD row)) (fun r h => hr r (List.mem_cons_of_mem _ h)) (by
      rw [List.length_append]
      split
      · rw [List.length_map]; omega
      · rw [List.length_nil]; omega) rfl
    refine ⟨v4', n4, ?_⟩
    rw [List.map_cons]
    refine (forL_nx1 (e1 := [s, a1, .dat (tD m), .lst (gr.map tD), .dat (tD row), .none]) rfl t).trans (q.trans ?_)
    by_cases e : (!shr row m) = true
    · rw [if_pos e, List.filter_cons_of_pos (p := fun row => !shr row m) e, List.flatMap_cons, List.append_assoc]
    · rw [if_neg e, List.filter_cons_of_neg (p := fun row => !shr row m) e, List.append_nil]
noncomputable abbrev BLB : Es Γ := mSeq (mSet 3 (mLc (iSeq (mVar 1)) [4] (gNm 4) (mT (.ex (mCall 2 f_shares [.brw 4, .brw 2]))) (mVar 4)))
    (mSeq (mFor (iSeq (mVar 1)) (gNm 4) BLI) (mSet 1 (mCall 1 f_least_of [.brw 3])))
theorem bl_turn {s a3 v4 : Sl Γ} {m : P} {found : List P} {c1 : Sl Γ} (hc : isF c1 found) (h4 : nonOwn v4 = true) (hm : m.length ≤ 7) (hf : ∀ r ∈ found, r.length ≤ 90) (hl : found.length ≤ 64) : ∃ c3 v4', nonOwn v4' = true ∧ BLB [s, c1, .dat (tD m), a3, v4, .none] = some (.nx, [s, .lst ((step found m).map tD), .dat (tD m), c3, v4', .none]) := by
  have w : wipeE [4] ([s, .dat (fD found), .dat (tD m), a3, v4, .none] : Env Γ) = some [s, .dat (fD found), .dat (tD m), a3, .none, .none] := by
    unfold wipeE
    simp [h4, wipeL]
  have c := compL_fil (Γ := Γ) (vs := [4]) (t := gNm 4) (tc := mT (.ex (mCall 2 f_shares [.brw 4, .brw 2]))) (f := mVar 4) (env := [s, .dat (fD found), .dat (tD m), a3, .none, .none]) tD tD (fun row => shr row m) found fun row hr =>
    ⟨[s, .dat (fD found), .dat (tD m), a3, .dat (tD row), .none], rfl, shr_call rfl rfl (by have := hf row hr; omega), fun _ => rfl, rfl⟩
  have l := lc_eq (hc.seq (env := [s, c1, .dat (tD m), a3, v4, .none]) (i := 1) rfl) (by rw [List.length_map]; exact big (by omega)) w c
  have q1 : mSet 3 (mLc (iSeq (mVar 1)) [4] (gNm 4) (mT (.ex (mCall 2 f_shares [.brw 4, .brw 2]))) (mVar 4)) [s, c1, .dat (tD m), a3, v4, .none] = some (.nx, [s, .dat (fD found), .dat (tD m), .lst ((found.filter fun row => shr row m).map tD), v4, .none]) := (set_eq (l.trans rfl) (by show 3 < 6; decide)).trans rfl
  have fl := List.length_filter_le (fun row => shr row m) found
  obtain ⟨v4', n4, lp⟩ := bl_loop (Γ := Γ) (s := s) (a1 := .dat (fD found)) (m := m) (by omega) found (found.filter fun row => shr row m) v4 (fun r h => by have := hf r h; omega) (by omega) h4
  have q2 := for_eq (fi := iSeq (mVar 1)) (env := [s, .dat (fD found), .dat (tD m), .lst ((found.filter fun row => shr row m).map tD), v4, .none]) (ds := found.map tD) rfl lp
  have gl : (grow found m).length ≤ 600 := by
    have : ∀ rows : List P, (rows.flatMap fun row => m.map fun x => srt (row ++ [x])).length ≤ 7 * rows.length := fun rows => by
      induction rows with
      | nil => exact Nat.le_refl _
      | cons r rows ih => rw [List.flatMap_cons, List.length_append, List.length_map, List.length_cons]; omega
    have h2 := this (found.filter fun row => !shr row m)
    have h3 := List.length_filter_le (fun row => !shr row m) found
    unfold grow
    rw [List.length_append]
    omega
  have gm : ∀ g ∈ grow found m, g.length ≤ 1000 := fun g hg => by
    rcases List.mem_append.mp hg with z | z
    · have := hf g (List.mem_filter.mp z).1; omega
    · obtain ⟨row, hr, hx⟩ := List.mem_flatMap.mp z
      obtain ⟨x, _, rfl⟩ := List.mem_map.mp hx
      have := hf row (List.mem_filter.mp hr).1
      have e : (srt (row ++ [x])).length = (row ++ [x]).length := (sortBy_perm ltI _).length_eq
      rw [e, List.length_append, List.length_singleton]
      omega
  have ev := eval_least (Γ := Γ) (s := .lst ((grow found m).map tD)) (F := grow found m) (.inl rfl) (by omega) gm
  have cl := call_b1 (Γ := Γ) (env := [s, .dat (fD found), .dat (tD m), .lst ((grow found m).map tD), v4', .none]) (b := 3) rfl rfl ev
  have q3 : mSet 1 (mCall 1 f_least_of [.brw 3]) [s, .dat (fD found), .dat (tD m), .lst ((grow found m).map tD), v4', .none] = some (.nx, [s, .lst ((step found m).map tD), .dat (tD m), .lst ((grow found m).map tD), v4', .none]) := (set_eq (cl.trans rfl) (by show 1 < 6; decide)).trans rfl
  exact ⟨.lst ((grow found m).map tD), v4', n4, (seq_nx q1).trans ((seq_nx q2).trans q3)⟩
end
end K

set_option maxHeartbeats 400000
namespace K
open PySem L2 G Fam
theorem allp_len : ∀ (I : P) (found : List P), (I.foldl (fun found x => found ++ found.map fun p => p ++ [x]) found).length = found.length * 2 ^ I.length
  | [], found => by simp
  | x :: I, found => by
    rw [List.foldl_cons, allp_len I, List.length_append, List.length_map, List.length_cons, Nat.pow_succ]
    rw [← Nat.two_mul, Nat.mul_comm 2, Nat.mul_assoc, Nat.mul_comm 2]
theorem nd_len {α : Type} [DecidableEq α] : ∀ {p q : List α}, p.Nodup → (∀ x ∈ p, x ∈ q) → p.length ≤ q.length
  | [], _, _, _ => Nat.zero_le _
  | a :: p, q, hn, h => by
    obtain ⟨n1, n2⟩ := List.nodup_cons.mp hn
    have ha := h a List.mem_cons_self
    have e : (q.erase a).length = q.length - 1 := List.length_erase_of_mem ha
    have := nd_len (q := q.erase a) n2 fun x hx => (List.mem_erase_of_ne (by rintro rfl; exact n1 hx)).mpr (h x (List.mem_cons_of_mem _ hx))
    have : 0 < q.length := List.length_pos_of_mem ha
    rw [List.length_cons]
    omega
theorem few {I : P} (hI : Up I) (h6 : I.length ≤ 6) {l : List P} (hT : TS l) (hm : ∀ t ∈ l, Up t ∧ sub t I) : l.length ≤ 64 := by
  obtain ⟨_, a2⟩ := allp_spec hI
  have n : l.Nodup := List.nodup_iff_pairwise_ne.mpr (hT.imp fun h => h.2)
  have h := nd_len n fun t ht => (a2 t).mpr (hm t ht)
  have e : (allp I).length = 2 ^ I.length := by unfold allp; rw [allp_len]; simp
  rw [e] at h
  have : 2 ^ I.length ≤ 2 ^ 6 := Nat.pow_le_pow_right (by decide) h6
  omega
section
variable {Γ : Gam}
theorem call_isF {f : Fn Γ} {env : Env Γ} {i : Nat} {s r : Sl Γ} {F : List P} (hi : env[i]? = some s) (hs : isF s F) (he : f [s] = some (r, [s])) : mCall 1 f [.brw i] env = some (r, env) := by
  rcases hs with rfl | rfl
  · have := call_b1 (f := f) hi rfl he
    rw [this]
    rw [same hi]
  · exact call_dat hi he
theorem bl_all {s : Sl Γ} {I : P} (hI : Up I) (h6 : I.length ≤ 6) : ∀ (Ms F0 found : List P) (v2 a3 v4 : Sl Γ), nonOwn v4 = true → TS found → (∀ t, t ∈ found ↔ MH F0 t) → (∀ f ∈ F0 ++ Ms, sub f I) → (∀ f ∈ Ms, Up f) → ∃ v2' a3' v4', forL (gNm 2) BLB (Ms.map tD) [s, .lst (found.map tD), v2, a3, v4, .none] = some (.nx, [s, .lst ((Ms.foldl step found).map tD), v2', a3', v4', .none])
  | [], F0, found, v2, a3, v4, _, _, _, _, _ => ⟨v2, a3, v4, rfl⟩
  | m :: Ms, F0, found, v2, a3, v4, h4, hT, hf, hs, hu => by
    have fu : ∀ f ∈ found, Up f := fun f h => ((hf f).mp h).1
    have fs : ∀ f ∈ found, Up f ∧ sub f I := fun f h => ⟨fu f h, mh_in ((hf f).mp h) fun g hg => hs g (List.mem_append_left _ hg)⟩
    have fl := few hI h6 hT fs
    have len : ∀ f, Up f → sub f I → f.length ≤ 6 := fun f h1 h2 => Nat.le_trans (sub_len (up_nodup h1) h2) h6
    have ml := len m (hu m List.mem_cons_self) (hs m (List.mem_append_right _ List.mem_cons_self))
    obtain ⟨c3, v4', n4, t⟩ := bl_turn (Γ := Γ) (s := s) (a3 := a3) (v4 := v4) (m := m) (found := found) (c1 := .lst (found.map tD)) (.inl rfl) h4 (by omega) (fun r h => by have := len r (fs r h).1 (fs r h).2; omega) fl
    obtain ⟨s1, s2⟩ := step_spec (m := m) fu hf
    obtain ⟨v2', a3', w4, q⟩ := bl_all hI h6 Ms (F0 ++ [m]) (step found m) (.dat (tD m)) c3 v4' n4 s1 s2 (fun f h => hs f (by simpa using h)) fun f h => hu f (List.mem_cons_of_mem _ h)
    refine ⟨v2', a3', w4, ?_⟩
    rw [List.map_cons]
    exact (forL_nx1 (e1 := [s, .lst (found.map tD), .dat (tD m), a3, v4, .none]) rfl t).trans q
theorem eval_blockers {s : Sl Γ} {F : List P} {I : P} (hI : Up I) (h6 : I.length ≤ 6) (hs : isF s F) (hl : F.length < 1000) (hu : ∀ f ∈ F, Up f) (hsub : ∀ f ∈ F, sub f I) : f_blockers (Γ := Γ) [s] = some (.lst ((blk F).map tD), [s]) := by
  have len : ∀ f ∈ F, f.length ≤ 1000 := fun f h => by have := sub_len (up_nodup (hu f h)) (hsub f h); omega
  obtain ⟨l1, l2⟩ := least_spec hu
  have ev := eval_least (Γ := Γ) hs hl len
  have cl := call_isF (Γ := Γ) (env := [s, .lst [tD []], .none, .none, .none, .none]) (i := 0) rfl hs ev
  have it : iSeq (mFrz (mCall 1 f_least_of [.brw 0])) ([s, .lst [tD []], .none, .none, .none, .none] : Env Γ) = some ((least F).map tD, [s, .lst [tD []], .none, .none, .none, .none]) := by
    unfold iSeq
    rw [frz_lst cl]
  obtain ⟨v2', a3', v4', lp⟩ := bl_all (Γ := Γ) (s := s) hI h6 (least F) [] [[]] .none .none .none rfl (List.pairwise_singleton _ _) mh_nil (fun f h => by
    rw [List.nil_append] at h
    exact hsub f ((l2 f).mp h).1) fun f h => hu f ((l2 f).mp h).1
  have q := for_eq it lp
  have h0 : (0 : Nat) ≤ sizeLine := by decide
  have tp : mN pTupN [] ([s, .none, .none, .none, .none, .none] : Env Γ) = some (.dat (tD []), [s, .none, .none, .none, .none, .none]) := by
    simp [mN, evAs, peeks, pTupN, allDat, h0, tD]
  have ls := lst_N (Γ := Γ) (as := [.ex (mN pTupN [])]) (env := [s, .none, .none, .none, .none, .none]) (e1 := [s, .none, .none, .none, .none, .none]) (ds := [tD []]) (xs := [.val (.dat (tD []))]) (by simp only [evAs, evA, tp, Option.map_some]) rfl (by show 1 ≤ sizeLine; decide)
  have q0 : mSet 1 (mN pLstN [.ex (mN pTupN [])]) ([s, .none, .none, .none, .none, .none] : Env Γ) = some (.nx, [s, .lst [tD []], .none, .none, .none, .none]) := (set_eq ls (by show 1 < 6; decide)).trans rfl
  exact fun_rt (args := [s]) (np := 1) (loc := 5) (A := [1, 2, 3, 4]) (e' := [s, .none, v2', a3', v4', .none]) rfl rfl ((seq_nx q0).trans ((seq_nx q).trans rfl))
end
end K

set_option maxHeartbeats 400000
namespace K
open PySem L2 G Fam
section
variable {Γ : Gam}
theorem tup1' {f : Ev Γ} {env e1 : Env Γ} {x : G.D} (h : f env = some (.dat x, e1)) : mN pTupN [.ex f] env = some (.dat (.tup [x]), e1) := by
  have h1 : (1 : Nat) ≤ sizeLine := by decide
  simp only [mN, evAs, evA, h, Option.map_some, peeks, peek]
  simp [pTupN, allDat, h1]
theorem tup2' {f g : Ev Γ} {env e1 e2 : Env Γ} {x y : G.D} (h : f env = some (.dat x, e1)) (h' : g e1 = some (.dat y, e2)) : mN pTupN [.ex f, .ex g] env = some (.dat (.tup [x, y]), e2) := by
  have h2 : (2 : Nat) ≤ sizeLine := by decide
  simp only [mN, evAs, evA, h, h', Option.map_some, peeks, peek]
  simp [pTupN, allDat, h2]
theorem seq_frz {f : Ev Γ} {env e1 : Env Γ} {ds : List G.D} (h : f env = some (.lst ds, e1)) : iSeq (mFrz f) env = some (ds, e1) := by
  have := frz_lst h
  unfold iSeq
  rw [this]
theorem snoc_at {env : Env Γ} {i j : Nat} {p : P} {x : Int} (hi : env[i]? = some (.dat (tD p))) (hj : env[j]? = some (.dat (.int x))) (hp : p.length < 1000) : m2 pAdd (.brw i) (.ex (mN pTupN [.ex (mVar j)])) env = some (.dat (tD (p ++ [x])), env) := by
  have vj : mVar j env = some (.dat (.int x), env) := by simp [mVar, hj]
  refine m2_bx (s := .dat (tD p)) hi (by exact nofun) (tup1' vj) ?_
  have l : (p.map G.D.int).length + [G.D.int x].length ≤ sizeLine := by
    rw [List.length_map]
    exact big (by show _ + 1 ≤ _; omega)
  unfold pAdd
  simp only [Sl.view, tD, l, if_true, List.map_append]
  rfl
theorem add_dl {a b : List G.D} (h : a.length + b.length ≤ sizeLine) : pAdd (Γ := Γ) (.dat (.lst a)) (.lst b) = some (.lst (a ++ b)) := by
  unfold pAdd
  simp only [Sl.view, h, if_true]
theorem kD_at {env : Env Γ} {b : Nat} {p : P} (hb : env[b]? = some (.dat (tD p))) : mN pTupN [.ex (mFrz (mN (pN1 pLen) [.brw b])), .ex (mVar b)] env = some (.dat (kD p), env) := by
  have v : mVar b env = some (.dat (tD p), env) := by simp [mVar, hb]
  have ln : mN (pN1 pLen) [.brw b] env = some (.dat (.int (p.length : Nat)), env) := by
    simp [mN, evAs, evA, hb, got, peeks, peek, pN1, pLen, Sl.view, di, tD]
  exact tup2' (frz_dat ln) v
abbrev LPB : Es Γ := mSet 1 (m2 pAdd (.brw 1) (.ex (mLc (iSeq (mVar 1)) [3] (gNm 3) (fun env => some (true, env)) (mFrz (m2 pAdd (.brw 3) (.ex (mN pTupN [.ex (mVar 2)])))))))
theorem lp_turn {s0 : Sl Γ} {found : List P} {x : Int} (hl : found.length ≤ 200) (hf : ∀ p ∈ found, p.length < 1000) : LPB [s0, .lst (found.map tD), .dat (.int x), .none, .none] = some (.nx, [s0, .lst ((found ++ found.map fun p => p ++ [x]).map tD), .dat (.int x), .none, .none]) := by
  have c := compL_all (Γ := Γ) (vs := [3]) (t := gNm 3) (f := mFrz (m2 pAdd (.brw 3) (.ex (mN pTupN [.ex (mVar 2)])))) (env := [s0, .dat (fD found), .dat (.int x), .none, .none]) tD (fun p => tD (p ++ [x])) found fun p hp =>
    ⟨[s0, .dat (fD found), .dat (.int x), .dat (tD p), .none], rfl, frz_dat (snoc_at rfl rfl (hf p hp)), rfl⟩
  have l := lc_eq (fi := iSeq (mVar 1)) (env := [s0, .lst (found.map tD), .dat (.int x), .none, .none]) (ds := found.map tD) (e1 := [s0, .dat (fD found), .dat (.int x), .none, .none]) rfl (by rw [List.length_map]; exact big (by omega)) (e2 := [s0, .dat (fD found), .dat (.int x), .none, .none]) rfl c
  have l : mLc (iSeq (mVar 1)) [3] (gNm 3) (fun env => some (true, env)) (mFrz (m2 pAdd (.brw 3) (.ex (mN pTupN [.ex (mVar 2)])))) [s0, .lst (found.map tD), .dat (.int x), .none, .none] = some (.lst ((found.map fun p => p ++ [x]).map tD), [s0, .dat (fD found), .dat (.int x), .none, .none]) := by
    rw [List.map_map]
    exact l
  have ad := add_dl (Γ := Γ) (a := found.map tD) (b := (found.map fun p => p ++ [x]).map tD) (by rw [List.length_map, List.length_map, List.length_map]; exact big (by omega))
  have m : m2 pAdd (.brw 1) (.ex (mLc (iSeq (mVar 1)) [3] (gNm 3) (fun env => some (true, env)) (mFrz (m2 pAdd (.brw 3) (.ex (mN pTupN [.ex (mVar 2)])))))) [s0, .lst (found.map tD), .dat (.int x), .none, .none] = some (.lst ((found ++ found.map fun p => p ++ [x]).map tD), [s0, .dat (fD found), .dat (.int x), .none, .none]) := by
    rw [List.map_append]
    simp only [m2, evA, got, List.getElem?_cons_succ, List.getElem?_cons_zero, Option.map_some, l, peek, ad]
  exact (set_eq m (by show 1 < 5; decide)).trans rfl
theorem lp_loop {s0 : Sl Γ} : ∀ (xs : P) (found : List P) (v2 : Sl Γ), found.length * 2 ^ xs.length ≤ 100 → (∀ p ∈ found, p.length + xs.length < 1000) → ∃ v2', forL (gNm 2) LPB (xs.map .int) [s0, .lst (found.map tD), v2, .none, .none] = some (.nx, [s0, .lst ((xs.foldl (fun found x => found ++ found.map fun p => p ++ [x]) found).map tD), v2', .none, .none])
  | [], found, v2, _, _ => ⟨v2, rfl⟩
  | x :: xs, found, v2, hl, hf => by
    have p1 : 1 ≤ 2 ^ xs.length := Nat.one_le_two_pow
    rw [List.length_cons, Nat.pow_succ] at hl
    have l1 : found.length ≤ 100 := by
      have : found.length * 1 ≤ found.length * (2 ^ xs.length * 2) := Nat.mul_le_mul_left _ (by omega)
      omega
    have t := lp_turn (Γ := Γ) (s0 := s0) (found := found) (x := x) (by omega) fun p hp => by have := hf p hp; omega
    obtain ⟨v2', q⟩ := lp_loop xs (found ++ found.map fun p => p ++ [x]) (.dat (.int x)) (by
      rw [List.length_append, List.length_map, ← Nat.two_mul, Nat.mul_comm 2, Nat.mul_assoc, Nat.mul_comm 2]
      exact hl) (fun p hp => by
      rcases List.mem_append.mp hp with z | z
      · have := hf p z; rw [List.length_cons] at this; omega
      · obtain ⟨q, hq, rfl⟩ := List.mem_map.mp z
        have := hf q hq
        rw [List.length_cons] at this
        rw [List.length_append, List.length_singleton]
        omega)
    refine ⟨v2', ?_⟩
    rw [List.map_cons]
    exact (forL_nx1 (e1 := [s0, .lst (found.map tD), .dat (.int x), .none, .none]) rfl t).trans q
theorem one_empty {env : Env Γ} : mN pLstN [.ex (mN pTupN [])] env = some (.lst [tD []], env) := by
  have h0 : (0 : Nat) ≤ sizeLine := by decide
  have tp : mN pTupN [] env = some (.dat (tD []), env) := by
    simp [mN, evAs, peeks, pTupN, allDat, h0, tD]
  exact lst_N (ds := [tD []]) (xs := [.val (.dat (tD []))]) (by simp only [evAs, evA, tp, Option.map_some]) rfl (by show 1 ≤ sizeLine; decide)
theorem eval_parts {I : P} (h6 : I.length ≤ 6) : f_law_parts (Γ := Γ) [.dat (tD I)] = some (.lst ((lawParts I).map tD), [.dat (tD I)]) := by
  have p2 : 2 ^ I.length ≤ 2 ^ 6 := Nat.pow_le_pow_right (by decide) h6
  obtain ⟨v2, lp⟩ := lp_loop (Γ := Γ) (s0 := .dat (tD I)) I [[]] .none (by show 1 * 2 ^ I.length ≤ 100; omega) fun p hp => by rw [List.mem_singleton.mp hp, List.length_nil]; omega
  have q := for_eq (fi := iSeq (mVar 0)) (env := [.dat (tD I), .lst [tD []], .none, .none, .none]) (ds := I.map .int) rfl lp
  have al : (allp I).length ≤ 64 := by unfold allp; rw [allp_len]; simp; omega
  have c := compL_all (Γ := Γ) (vs := [3]) (t := gNm 3) (f := mN pTupN [.ex (mFrz (mN (pN1 pLen) [.brw 3])), .ex (mVar 3)]) (env := [.dat (tD I), .dat (fD (allp I)), v2, .none, .none]) tD kD (allp I) fun p hp =>
    ⟨[.dat (tD I), .dat (fD (allp I)), v2, .dat (tD p), .none], rfl, kD_at rfl, rfl⟩
  have l := lc_eq (fi := iSeq (mVar 1)) (env := [.dat (tD I), .lst ((allp I).map tD), v2, .none, .none]) (ds := (allp I).map tD) (e1 := [.dat (tD I), .dat (fD (allp I)), v2, .none, .none]) rfl (by rw [List.length_map]; exact big (by omega)) (e2 := [.dat (tD I), .dat (fD (allp I)), v2, .none, .none]) rfl c
  have so := m1_ex (l.trans rfl) (sortD_eq (Γ := Γ) (F := allp I) (big (by omega)))
  have it : iSeq (mFrz (m1 pSortD (.ex (mLc (iSeq (mVar 1)) [3] (gNm 3) (fun env => some (true, env)) (mN pTupN [.ex (mFrz (mN (pN1 pLen) [.brw 3])), .ex (mVar 3)]))))) [.dat (tD I), .lst ((allp I).map tD), v2, .none, .none] = some ((lawParts I).map kD, [.dat (tD I), .dat (fD (allp I)), v2, .none, .none]) := (seq_frz so).trans rfl
  have c2 := compL_all (Γ := Γ) (vs := [4, 3]) (t := gTp [gNm 4, gNm 3]) (f := mVar 3) (env := [.dat (tD I), .dat (fD (allp I)), v2, .none, .none]) kD tD (lawParts I) fun p hp =>
    ⟨[.dat (tD I), .dat (fD (allp I)), v2, .dat (tD p), .dat (.int (p.length : Nat))], rfl, rfl, rfl⟩
  have ll : (lawParts I).length ≤ 64 := by unfold lawParts; rw [(List.mergeSort_perm _ _).length_eq]; exact al
  have l2 := lc_eq it (by rw [List.length_map]; exact big (by omega)) (e2 := [.dat (tD I), .dat (fD (allp I)), v2, .none, .none]) rfl c2
  have q0 : mSet 1 (mN pLstN [.ex (mN pTupN [])]) ([.dat (tD I), .none, .none, .none, .none] : Env Γ) = some (.nx, [.dat (tD I), .lst [tD []], .none, .none, .none]) := (set_eq one_empty (by show 1 < 5; decide)).trans rfl
  exact fun_rt (args := [.dat (tD I)]) (np := 1) (loc := 4) (A := [1, 2]) (e' := [.dat (tD I), .dat (fD (allp I)), v2, .none, .none]) rfl rfl ((seq_nx q0).trans ((seq_nx q).trans (ret_eq l2)))
theorem ne_tups {p q : P} : pNe (Γ := Γ) (.dat (tD p)) (.dat (tD q)) = some (.dat (.bl (decide (p ≠ q)))) := by
  have o : ∀ p : P, okD (tD p) = true := fun p => lay_ok (lay_tD p) (by decide)
  have e : eqD (tD p) (tD q) = decide (p = q) := eq_tints p q
  unfold pNe pEqG
  simp only [Sl.view, o, Bool.and_self, if_true, e, db, decide_not]
theorem eval_law_least {s : Sl Γ} {F : List P} (hs : isF s F) (hl : F.length < 1000) (hF : ∀ f ∈ F, f.length ≤ 1000) : f_law_least (Γ := Γ) [s] = some (.lst ((lawLeast F).map tD), [.dat (fD F)]) := by
  have c := compL_fil (Γ := Γ) (vs := [2]) (t := gNm 2) (tc := toT (m2 pEq (.ex (mLc (iSeq (mVar 0)) [3] (gNm 3) (mAndT (toT (m2 pNe (.brw 3) (.brw 2))) (mT (.ex (mCall 2 f_law_inside [.brw 3, .brw 2])))) (mVar 3))) (.ex (mN pLstN [])))) (f := mVar 2) (env := [.dat (fD F), .none, .none, .none, .none, .none]) tD tD (fun one => decide ((F.filter fun other => decide (other ≠ one) && subB other one) = [])) F fun one h1 => by
    refine ⟨[.dat (fD F), .none, .dat (tD one), .none, .none, .none], rfl, toT_eq ?_, fun _ => rfl, rfl⟩
    have c := compL_fil (Γ := Γ) (vs := [3]) (t := gNm 3) (tc := mAndT (toT (m2 pNe (.brw 3) (.brw 2))) (mT (.ex (mCall 2 f_law_inside [.brw 3, .brw 2])))) (f := mVar 3) (env := [.dat (fD F), .none, .dat (tD one), .none, .none, .none]) tD tD (fun other => decide (other ≠ one) && subB other one) F fun other h2 =>
      ⟨[.dat (fD F), .none, .dat (tD one), .dat (tD other), .none, .none], rfl, and_tt (toT_eq (m2_bb rfl rfl rfl rfl ne_tups)) (mT_ex (call_dd rfl rfl (eval_inside (hF other h2)))), fun _ => rfl, rfl⟩
    have l := lc_eq (fi := iSeq (mVar 0)) (env := [.dat (fD F), .none, .dat (tD one), .none, .none, .none]) (ds := F.map tD) rfl (by rw [List.length_map]; exact big (by omega)) (e2 := [.dat (fD F), .none, .dat (tD one), .none, .none, .none]) rfl c
    have r := m2_ex (l.trans rfl) lst_nil (eq_nil (ok_fam (F.filter fun other => decide (other ≠ one) && subB other one)) (t := .lst []) rfl)
    rw [map_nil_iff] at r
    exact r
  have l := lc_eq (hs.seq (env := [s, .none, .none, .none, .none, .none]) (i := 0) rfl) (by rw [List.length_map]; exact big (by omega)) (e2 := [.dat (fD F), .none, .none, .none, .none, .none]) rfl c
  have q0 := (set_eq (i := 1) l (by show 1 < 6; decide))
  generalize eM : (F.filter fun one => decide ((F.filter fun other => decide (other ≠ one) && subB other one) = [])) = M at q0
  have ml : M.length ≤ F.length := by rw [← eM]; exact List.length_filter_le _ _
  have q0 : mSet 1 (mLc (iSeq (mVar 0)) [2] (gNm 2) (toT (m2 pEq (.ex (mLc (iSeq (mVar 0)) [3] (gNm 3) (mAndT (toT (m2 pNe (.brw 3) (.brw 2))) (mT (.ex (mCall 2 f_law_inside [.brw 3, .brw 2])))) (mVar 3))) (.ex (mN pLstN [])))) (mVar 2)) ([s, .none, .none, .none, .none, .none] : Env Γ) = some (.nx, [.dat (fD F), .lst (M.map tD), .none, .none, .none, .none]) := q0.trans rfl
  have c1 := compL_all (Γ := Γ) (vs := [5]) (t := gNm 5) (f := mN pTupN [.ex (mFrz (mN (pN1 pLen) [.brw 5])), .ex (mVar 5)]) (env := [.dat (fD F), .dat (fD M), .none, .none, .none, .none]) tD kD M fun p hp =>
    ⟨[.dat (fD F), .dat (fD M), .none, .none, .none, .dat (tD p)], rfl, kD_at rfl, rfl⟩
  have l1 := lc_eq (fi := iSeq (mVar 1)) (env := [.dat (fD F), .lst (M.map tD), .none, .none, .none, .none]) (ds := M.map tD) (e1 := [.dat (fD F), .dat (fD M), .none, .none, .none, .none]) rfl (by rw [List.length_map]; exact big (by omega)) (e2 := [.dat (fD F), .dat (fD M), .none, .none, .none, .none]) rfl c1
  have so := m1_ex (l1.trans rfl) (sortD_eq (Γ := Γ) (F := M) (big (by omega)))
  have it : iSeq (mFrz (m1 pSortD (.ex (mLc (iSeq (mVar 1)) [5] (gNm 5) (fun env => some (true, env)) (mN pTupN [.ex (mFrz (mN (pN1 pLen) [.brw 5])), .ex (mVar 5)]))))) [.dat (fD F), .lst (M.map tD), .none, .none, .none, .none] = some ((M.mergeSort tle).map kD, [.dat (fD F), .dat (fD M), .none, .none, .none, .none]) := (seq_frz so).trans rfl
  have c2 := compL_all (Γ := Γ) (vs := [4, 5]) (t := gTp [gNm 4, gNm 5]) (f := mVar 5) (env := [.dat (fD F), .dat (fD M), .none, .none, .none, .none]) kD tD (M.mergeSort tle) fun p hp =>
    ⟨[.dat (fD F), .dat (fD M), .none, .none, .dat (.int (p.length : Nat)), .dat (tD p)], rfl, rfl, rfl⟩
  have l2 := lc_eq it (by rw [List.length_map, (List.mergeSort_perm M tle).length_eq]; exact big (by omega)) (e2 := [.dat (fD F), .dat (fD M), .none, .none, .none, .none]) rfl c2
  have eL : lawLeast F = M.mergeSort tle := by unfold lawLeast; rw [eM]
  rw [eL]
  exact fun_rt (args := [s]) (np := 1) (loc := 5) (A := [1]) (e' := [.dat (fD F), .dat (fD M), .none, .none, .none, .none]) rfl rfl ((seq_nx q0).trans (ret_eq l2))
end
end K

set_option maxHeartbeats 400000
namespace K
open PySem L2 G Fam
section
variable {Γ : Gam}
noncomputable abbrev LKB : Es Γ := mIfS (mAndT (mT (.ex (mCall 2 f_law_meets [.brw 3, .brw 1]))) (toT (m2 pEq (.ex (mLendN 2 (mLc (iSeq (mVar 2)) [4] (gNm 4) (mT (.ex (mCall 2 f_law_inside [.brw 4, .brw 3]))) (mVar 4)))) (.ex (mN pLstN []))))) (mDrop (mMut 2 uAppend [.ex (mVar 3)])) (mNx)
theorem meets_call {env : Env Γ} {i j : Nat} {s : Sl Γ} {p : P} {F : List P} (hi : env[i]? = some (.dat (tD p))) (hj : env[j]? = some s) (hs : isF s F) (hn : i ≠ j) (hp : p.length ≤ 1000) (hF : ∀ f ∈ F, f.length ≤ 1000) (hl : F.length ≤ 1000) : mCall 2 f_law_meets [.brw i, .brw j] env = some (.dat (.bl (hitsB F p)), env.set j (.dat (fD F))) := by
  have e := eval_meets (Γ := Γ) (p := p) hs hp hF hl
  have g1 : got (some (Sl.dat (Γ := Γ) (tD p))) = some (.dat (tD p)) := rfl
  have n1 : nonOwn (Sl.dat (Γ := Γ) (tD p)) = true := rfl
  rcases hs with rfl | rfl
  · have g2 : got (some (Sl.lst (Γ := Γ) (F.map tD))) = some (.lst (F.map tD)) := rfl
    have n2 : nonOwn (Sl.lst (Γ := Γ) (F.map tD)) = false := rfl
    simp only [mCall, evAs, evA, hi, hj, g1, g2, Option.map_some, takeA, n1, n2, if_true]
    simp [takeA, hi, hj, g1, g2, n1, n2, e, putA]
  · have g2 : got (some (Sl.dat (Γ := Γ) (.lst (F.map tD)))) = some (.dat (.lst (F.map tD))) := rfl
    have n2 : nonOwn (Sl.dat (Γ := Γ) (.lst (F.map tD))) = true := rfl
    have sm := same hj
    simp only [mCall, evAs, evA, hi, hj, g1, g2, Option.map_some]
    simp [takeA, hi, hj, g1, g2, n1, n2, e, putA]
    exact sm.symm
theorem lk_turn {s0 c1 : Sl Γ} {F found : List P} {p : P} (hs : isF c1 F) (hp : p.length ≤ 1000) (hF : ∀ f ∈ F, f.length ≤ 1000) (hl : F.length ≤ 1000) (h0 : lendOkN s0 = true) (fl : found.length < 1000) (ff : ∀ f ∈ found, f.length ≤ 1000) :
    LKB [s0, c1, .lst (found.map tD), .dat (tD p), .none] = some (.nx, [s0, .dat (fD F), .lst ((if hitsB F p = true then (if (found.map fun f => subB f p).any id = true then found else found ++ [p]) else found).map tD), .dat (tD p), .none]) := by
  have m := mT_ex (meets_call (Γ := Γ) (env := [s0, c1, .lst (found.map tD), .dat (tD p), .none]) (i := 3) (j := 1) rfl rfl hs (by decide) hp hF hl)
  have m : mT (.ex (mCall 2 f_law_meets [.brw 3, .brw 1])) [s0, c1, .lst (found.map tD), .dat (tD p), .none] = some (hitsB F p, [s0, .dat (fD F), .lst (found.map tD), .dat (tD p), .none]) := m
  cases eh : hitsB F p with
  | false =>
    rw [eh] at m
    have t : mAndT (mT (.ex (mCall 2 f_law_meets [.brw 3, .brw 1]))) (toT (m2 pEq (.ex (mLendN 2 (mLc (iSeq (mVar 2)) [4] (gNm 4) (mT (.ex (mCall 2 f_law_inside [.brw 4, .brw 3]))) (mVar 4)))) (.ex (mN pLstN [])))) [s0, c1, .lst (found.map tD), .dat (tD p), .none] = some (false, [s0, .dat (fD F), .lst (found.map tD), .dat (tD p), .none]) := by
      unfold mAndT
      rw [m]
    rw [if_neg (by simp)]
    exact (ifs_f t).trans rfl
  | true =>
    rw [eh] at m
    have c := compL_fil (Γ := Γ) (vs := [4]) (t := gNm 4) (tc := mT (.ex (mCall 2 f_law_inside [.brw 4, .brw 3]))) (f := mVar 4) (env := [s0, .dat (fD F), .dat (fD found), .dat (tD p), .none]) tD tD (fun f => subB f p) found fun f hf =>
      ⟨[s0, .dat (fD F), .dat (fD found), .dat (tD p), .dat (tD f)], rfl, mT_ex (call_dd rfl rfl (eval_inside (ff f hf))), fun _ => rfl, rfl⟩
    have l := lc_eq (fi := iSeq (mVar 2)) (env := [s0, .dat (fD F), .dat (fD found), .dat (tD p), .none]) (ds := found.map tD) rfl (by rw [List.length_map]; exact big (by omega)) (e2 := [s0, .dat (fD F), .dat (fD found), .dat (tD p), .none]) rfl c
    have le := lendN_eq (i := 2) (env := [s0, .dat (fD F), .lst (found.map tD), .dat (tD p), .none]) (ds := found.map tD) rfl (l.trans rfl) (nols_fam (found.filter fun f => subB f p)) (by
      show (([s0, .dat (fD F), .none, .dat (tD p), .none] : Env Γ)).all lendOkN = true
      rw [List.all_cons, h0]
      rfl)
    have r := toT_eq (m2_ex le lst_nil (eq_nil (ok_fam (found.filter fun f => subB f p)) (t := .lst []) rfl))
    rw [map_nil_iff] at r
    have e2 : decide (found.filter (fun f => subB f p) = []) = !(found.map fun f => subB f p).any id := by
      rw [List.any_map, Bool.eq_iff_iff, decide_eq_true_iff, List.filter_eq_nil_iff, Bool.not_eq_true', List.any_eq_false]
      rfl
    rw [e2] at r
    have t : mAndT (mT (.ex (mCall 2 f_law_meets [.brw 3, .brw 1]))) (toT (m2 pEq (.ex (mLendN 2 (mLc (iSeq (mVar 2)) [4] (gNm 4) (mT (.ex (mCall 2 f_law_inside [.brw 4, .brw 3]))) (mVar 4)))) (.ex (mN pLstN [])))) [s0, c1, .lst (found.map tD), .dat (tD p), .none] = some (!(found.map fun f => subB f p).any id, [s0, .dat (fD F), .lst (found.map tD), .dat (tD p), .none]) := by
      unfold mAndT
      rw [m]
      exact r
    rw [if_pos rfl]
    cases e : (found.map fun f => subB f p).any id with
    | true =>
      rw [e] at t
      rw [if_pos rfl]
      exact (ifs_f t).trans rfl
    | false =>
      rw [e] at t
      rw [if_neg (by simp)]
      refine (ifs_t t).trans ((app_eq (i := 2) (j := 3) (ds := found.map tD) (d := tD p) rfl rfl (by rw [List.length_map]; exact fl)).trans ?_)
      rw [List.map_append]
      rfl
theorem lk_loop {s0 : Sl Γ} {F : List P} (hF : ∀ f ∈ F, f.length ≤ 1000) (hl : F.length ≤ 1000) (h0 : lendOkN s0 = true) : ∀ (ps found : List P) (c1 v3 : Sl Γ), isF c1 F → found.length + ps.length < 1000 → (∀ f ∈ found, f.length ≤ 1000) → (∀ f ∈ ps, f.length ≤ 1000) → ∃ c1' v3', isF c1' F ∧ (c1 = .dat (fD F) → c1' = .dat (fD F)) ∧ forL (gNm 3) LKB (ps.map tD) [s0, c1, .lst (found.map tD), v3, .none] = some (.nx, [s0, c1', .lst ((lst1 found (ps.filter (hitsB F))).map tD), v3', .none])
  | [], found, c1, v3, hs, _, _, _ => ⟨c1, v3, hs, id, rfl⟩
  | p :: ps, found, c1, v3, hs, hn, ff, fp => by
    rw [List.length_cons] at hn
    have t := lk_turn (Γ := Γ) (found := found) hs (fp p List.mem_cons_self) hF hl h0 (by omega) ff
    have keep : ∀ fnd : List P, fnd = found ∨ fnd = found ++ [p] → fnd.length + ps.length < 1000 ∧ ∀ f ∈ fnd, f.length ≤ 1000 := fun fnd h => by
      rcases h with rfl | rfl
      · exact ⟨by omega, ff⟩
      · refine ⟨by rw [List.length_append, List.length_singleton]; omega, fun f hf => ?_⟩
        rcases List.mem_append.mp hf with z | z
        · exact ff f z
        · rw [List.mem_singleton.mp z]; exact fp p List.mem_cons_self
    generalize ef : (if hitsB F p = true then (if (found.map fun f => subB f p).any id = true then found else found ++ [p]) else found) = fnd at t
    have h2 := keep fnd (by
      rw [← ef]
      split
      · split
        · exact .inl rfl
        · exact .inr rfl
      · exact .inl rfl)
    obtain ⟨c1', v3', hs', hd, q⟩ := lk_loop hF hl h0 ps fnd (.dat (fD F)) (.dat (tD p)) (.inr rfl) h2.1 h2.2 fun f h => fp f (List.mem_cons_of_mem _ h)
    refine ⟨c1', v3', hs', fun _ => hd rfl, ?_⟩
    rw [List.map_cons]
    refine (forL_nx1 (e1 := [s0, c1, .lst (found.map tD), .dat (tD p), .none]) rfl t).trans (q.trans ?_)
    by_cases e : hitsB F p = true
    · rw [List.filter_cons_of_pos e, lst1, ← ef, if_pos e]
    · rw [List.filter_cons_of_neg e, ← ef, if_neg e]
theorem eval_law_blockers {s : Sl Γ} {F : List P} {I : P} (hI : Up I) (h6 : I.length ≤ 6) (hs : isF s F) (hl : F.length < 1000) (hF : ∀ f ∈ F, f.length ≤ 1000) : ∃ s', isF s' F ∧ (s = .dat (fD F) → s' = .dat (fD F)) ∧ f_law_blockers (Γ := Γ) [.dat (tD I), s] = some (.lst ((lawBlk I F).map tD), [.dat (tD I), s']) := by
  obtain ⟨p1, p2⟩ := parts_spec hI
  have pl := few hI h6 p1 fun t ht => (p2 t).mp ht
  obtain ⟨c1, v3, hs', hd, lp⟩ := lk_loop (Γ := Γ) (s0 := .dat (tD I)) hF (by omega) rfl (lawParts I) [] s .none hs (by rw [List.length_nil]; omega) (fun f h => by cases h) fun f h => by
    obtain ⟨u, i⟩ := (p2 f).mp h
    have := sub_len (up_nodup u) i
    omega
  have it := seq_frz (call_dat (Γ := Γ) (env := [.dat (tD I), s, .lst [], .none, .none]) (b := 0) rfl (eval_parts h6))
  have q := for_eq it lp
  have q0 : mSet 2 (mN pLstN []) ([.dat (tD I), s, .none, .none, .none] : Env Γ) = some (.nx, [.dat (tD I), s, .lst [], .none, .none]) := (set_eq lst_nil (by show 2 < 5; decide)).trans rfl
  exact ⟨c1, hs', hd, fun_rt (args := [.dat (tD I), s]) (np := 2) (loc := 3) (A := [2, 3]) (e' := [.dat (tD I), c1, .none, v3, .none]) rfl rfl ((seq_nx q0).trans ((seq_nx q).trans rfl))⟩
def upT (F : List P) (one : P) (x : Int) : Bool := !decide (x ∈ one) && !decide (srt (one ++ [x]) ∈ F)
def upB (F : List P) (I : P) : Bool := F.all fun one => I.all fun x => !upT F one x
theorem eqD_tD (p q : P) : eqD (tD p) (tD q) = decide (p = q) := eq_tints p q
theorem nin_fam {g : Bool → Bool} {s : Sl Γ} {F : List P} {p : P} (hs : s.view = some (fD F)) : pInG g (.dat (tD p)) s = some (db (g (decide (p ∈ F)))) := by
  have o1 : okD (tD p) = true := lay_ok (lay_tD p) (by decide)
  have e : ((F.map tD).any fun z => eqD z (tD p)) = decide (p ∈ F) := by
    rw [List.any_map, Bool.eq_iff_iff, List.any_eq_true, decide_eq_true_iff]
    constructor
    · rintro ⟨q, hq, h⟩
      have h : eqD (tD q) (tD p) = true := h
      rw [eqD_tD] at h
      rw [← of_decide_eq_true h]
      exact hq
    · intro h
      exact ⟨p, h, by show eqD (tD p) (tD p) = true; rw [eqD_tD]; simp⟩
  have hv : (Sl.dat (Γ := Γ) (tD p)).view = some (tD p) := rfl
  unfold pInG
  simp only [hv, hs, o1, ok_fam, Bool.and_self, if_true, e]
end
end K

set_option maxHeartbeats 400000
namespace K
open PySem L2 G Fam
section
variable {Γ : Gam}
theorem nf_tD {env : Env Γ} {j : Nat} {f : Ev Γ} {s : Sl Γ} {F : List P} {p : P} (hf : f env = some (.dat (tD p), env)) (hj : env[j]? = some s) (hs : isF s F) : m2 pNotIn (.ex f) (.brw j) env = some (.dat (.bl (!decide (p ∈ F))), env) := by
  have h := nin_fam (Γ := Γ) (g := not) (p := p) (s := s) (F := F) hs.view
  have hg := hs.got
  simp only [m2, evA, hf, hj, hg, Option.map_some, peek, pNotIn, h]
  rfl
abbrev UPI : Es Γ := mIfS (mAndT (toT (m2 pNotIn (.brw 4) (.brw 3))) (toT (m2 pNotIn (.ex (mN (pN1 pTuple) [.ex (mN (pN1 pSorted) [.ex (mStarE (mVar 3) (mVar 4))])])) (.brw 2)))) (mRet (mC (.bl false))) (mNx)
theorem up_one {s0 s1 c2 : Sl Γ} {F : List P} {one : P} {x : Int} (h2 : isF c2 F) (ho : one.length < 1000) : UPI [s0, s1, c2, .dat (tD one), .dat (.int x)] = if upT F one x = true then some (.rt (.dat (.bl false)), [s0, s1, c2, .dat (tD one), .dat (.int x)]) else some (.nx, [s0, s1, c2, .dat (tD one), .dat (.int x)]) := by
  have t := and_tt (toT_eq (nin_tD (Γ := Γ) (env := [s0, s1, c2, .dat (tD one), .dat (.int x)]) (i := 4) (j := 3) rfl rfl)) (toT_eq (nf_tD (star_srt (Γ := Γ) (env := [s0, s1, c2, .dat (tD one), .dat (.int x)]) (i := 3) (j := 4) rfl rfl ho) (j := 2) rfl h2))
  have t : mAndT (toT (m2 pNotIn (.brw 4) (.brw 3))) (toT (m2 pNotIn (.ex (mN (pN1 pTuple) [.ex (mN (pN1 pSorted) [.ex (mStarE (mVar 3) (mVar 4))])])) (.brw 2))) [s0, s1, c2, .dat (tD one), .dat (.int x)] = some (upT F one x, [s0, s1, c2, .dat (tD one), .dat (.int x)]) := t
  cases e : upT F one x with
  | true =>
    rw [e] at t
    exact (ifs_t t).trans rfl
  | false =>
    rw [e] at t
    exact (ifs_f t).trans rfl
theorem up_in {s0 s1 c2 : Sl Γ} {F : List P} {one : P} (h2 : isF c2 F) (ho : one.length < 1000) : ∀ (xs : P) (v4 : Sl Γ), ∃ v4', forL (gNm 4) UPI (xs.map .int) [s0, s1, c2, .dat (tD one), v4] = some (if (xs.all fun x => !upT F one x) = true then .nx else .rt (.dat (.bl false)), [s0, s1, c2, .dat (tD one), v4'])
  | [], v4 => ⟨v4, rfl⟩
  | x :: xs, v4 => by
    have t := up_one (Γ := Γ) (s0 := s0) (s1 := s1) (x := x) h2 ho
    obtain ⟨v4', q⟩ := up_in (s0 := s0) (s1 := s1) h2 ho xs (.dat (.int x))
    rw [List.map_cons, List.all_cons]
    cases e : upT F one x with
    | true =>
      rw [e, if_pos rfl] at t
      exact ⟨_, forL_rt1 rfl t⟩
    | false =>
      rw [e, if_neg (by simp)] at t
      exact ⟨v4', (forL_nx1 rfl t).trans (by rw [q]; rfl)⟩
theorem up_out {s0 : Sl Γ} {I : P} {F : List P} : ∀ (S : List P) (c2 v3 v4 : Sl Γ), isF c2 F → (∀ f ∈ S, f.length < 1000) → ∃ c2' v3' v4', forL (gNm 3) (mFor (iSeq (mVar 1)) (gNm 4) UPI) (S.map tD) [s0, .dat (tD I), c2, v3, v4] = some (if (S.all fun one => I.all fun x => !upT F one x) = true then .nx else .rt (.dat (.bl false)), [s0, .dat (tD I), c2', v3', v4'])
  | [], c2, v3, v4, _, _ => ⟨c2, v3, v4, rfl⟩
  | f :: S, c2, v3, v4, h2, hS => by
    obtain ⟨v4', t⟩ := up_in (Γ := Γ) (s0 := s0) (s1 := .dat (tD I)) (one := f) h2 (hS f List.mem_cons_self) I v4
    have t := for_eq (fi := iSeq (mVar 1)) (env := [s0, .dat (tD I), c2, .dat (tD f), v4]) (ds := I.map .int) rfl t
    rw [List.map_cons, List.all_cons]
    cases e : (I.all fun x => !upT F f x) with
    | false =>
      rw [e, if_neg (by simp)] at t
      exact ⟨_, _, _, forL_rt1 rfl t⟩
    | true =>
      rw [e, if_pos rfl] at t
      obtain ⟨c2', v3', w4, q⟩ := up_out (s0 := s0) (I := I) S c2 (.dat (tD f)) v4' h2 fun g h => hS g (List.mem_cons_of_mem _ h)
      exact ⟨c2', v3', w4, (forL_nx1 rfl t).trans (by rw [q]; rfl)⟩
theorem eval_upward {s : Sl Γ} {F : List P} {I : P} (hs : isF s F) (hl : F.length ≤ 1000) (hF : ∀ f ∈ F, f.length < 1000) : f_is_upward (Γ := Γ) [s, .dat (tD I)] = some (.dat (.bl (upB F I)), [.dat (fD F), .dat (tD I)]) := by
  have c := compL_all (Γ := Γ) (vs := [3]) (t := gNm 3) (f := mFrz (mN (pN1 pTuple) [.brw 3])) (env := [.dat (fD F), .dat (tD I), .none, .none, .none]) tD tD F fun f hf =>
    ⟨[.dat (fD F), .dat (tD I), .none, .dat (tD f), .none], rfl, frz_dat (by simp [mN, evAs, evA, got, peeks, peek, pN1, pTuple, Sl.view, tD]), rfl⟩
  have l := lc_eq (hs.seq (env := [s, .dat (tD I), .none, .none, .none]) (i := 0) rfl) (by rw [List.length_map]; exact big hl) (e2 := [.dat (fD F), .dat (tD I), .none, .none, .none]) rfl c
  have q0 := (set_eq (i := 2) (l.trans rfl) (by show 2 < 5; decide)).trans (show _ = some (Fl.nx, [Sl.dat (fD F), .dat (tD I), .lst (F.map tD), .none, .none]) from rfl)
  obtain ⟨c2', v3', v4', lp⟩ := up_out (Γ := Γ) (s0 := .dat (fD F)) (I := I) (F := F) F (.dat (fD F)) .none .none (.inr rfl) hF
  have q := for_eq (fi := iSeq (mVar 2)) (env := [.dat (fD F), .dat (tD I), .lst (F.map tD), .none, .none]) (ds := F.map tD) rfl lp
  show mFun 2 3 [2, 3, 4] b_is_upward _ = _
  unfold b_is_upward
  cases e : upB F I with
  | true =>
    have e : (F.all fun one => I.all fun x => !upT F one x) = true := e
    rw [e, if_pos rfl] at q
    exact fun_rt (args := [s, .dat (tD I)]) (np := 2) (loc := 3) (A := [2, 3, 4]) (s := .dat (.bl true)) (e' := [.dat (fD F), .dat (tD I), c2', v3', v4']) rfl rfl ((seq_nx q0).trans ((seq_nx q).trans rfl))
  | false =>
    have e : (F.all fun one => I.all fun x => !upT F one x) = false := e
    rw [e, if_neg (by simp)] at q
    exact fun_rt (args := [s, .dat (tD I)]) (np := 2) (loc := 3) (A := [2, 3, 4]) (s := .dat (.bl false)) (e' := [.dat (fD F), .dat (tD I), c2', v3', v4']) rfl rfl ((seq_nx q0).trans (seq_rt1 q))
abbrev LUI : Es Γ := mIfS (mAndT (toT (m2 pNotIn (.brw 3) (.brw 2))) (toT (m2 pNotIn (.ex (mN (pN1 pTuple) [.ex (mN (pN1 pSorted) [.ex (m2 pAdd (.ex (mN (pN1 pList) [.brw 2])) (.ex (mN pLstN [.ex (mVar 3)])))])])) (.brw 0)))) (mRet (mC (.bl false))) (mNx)
theorem list_srt {env : Env Γ} {i j : Nat} {p : P} {x : Int} (hi : env[i]? = some (.dat (tD p))) (hj : env[j]? = some (.dat (.int x))) (hp : p.length < 1000) : mN (pN1 pTuple) [.ex (mN (pN1 pSorted) [.ex (m2 pAdd (.ex (mN (pN1 pList) [.brw i])) (.ex (mN pLstN [.ex (mVar j)])))])] env = some (.dat (tD (srt (p ++ [x]))), env) := by
  have vj : mVar j env = some (.dat (.int x), env) := by simp [mVar, hj]
  have l1 : mN (pN1 pList) [.brw i] env = some (.lst (p.map .int), env) := by
    simp [mN, evAs, evA, hi, got, peeks, peek, pN1, pList, Sl.view, tD]
  have l2 := lst_N (Γ := Γ) (as := [.ex (mVar j)]) (env := env) (e1 := env) (ds := [.int x]) (xs := [.val (.dat (.int x))]) (by simp only [evAs, evA, vj, Option.map_some]) rfl (by show 1 ≤ sizeLine; decide)
  have ad := m2_ex l1 l2 (add_ll (Γ := Γ) (a := p.map .int) (b := [.int x]) (by rw [List.length_map]; exact big (by show _ + 1 ≤ _; omega)))
  have e : p.map G.D.int ++ [.int x] = (p ++ [x]).map .int := by rw [List.map_append]; rfl
  rw [e] at ad
  have so : mN (pN1 pSorted) [.ex (m2 pAdd (.ex (mN (pN1 pList) [.brw i])) (.ex (mN pLstN [.ex (mVar j)])))] env = some (.lst ((srt (p ++ [x])).map .int), env) := by
    simp only [mN, evAs, evA, ad, Option.map_some, peeks, peek, pN1, pSorted, Sl.view, allInt_map]
    rfl
  exact tup_ints so
theorem lu_one {s1 c0 : Sl Γ} {F : List P} {one : P} {x : Int} (h0 : isF c0 F) (ho : one.length < 1000) : LUI [c0, s1, .dat (tD one), .dat (.int x)] = if upT F one x = true then some (.rt (.dat (.bl false)), [c0, s1, .dat (tD one), .dat (.int x)]) else some (.nx, [c0, s1, .dat (tD one), .dat (.int x)]) := by
  have t := and_tt (toT_eq (nin_tD (Γ := Γ) (env := [c0, s1, .dat (tD one), .dat (.int x)]) (i := 3) (j := 2) rfl rfl)) (toT_eq (nf_tD (list_srt (Γ := Γ) (env := [c0, s1, .dat (tD one), .dat (.int x)]) (i := 2) (j := 3) rfl rfl ho) (j := 0) rfl h0))
  have t : mAndT (toT (m2 pNotIn (.brw 3) (.brw 2))) (toT (m2 pNotIn (.ex (mN (pN1 pTuple) [.ex (mN (pN1 pSorted) [.ex (m2 pAdd (.ex (mN (pN1 pList) [.brw 2])) (.ex (mN pLstN [.ex (mVar 3)])))])])) (.brw 0))) [c0, s1, .dat (tD one), .dat (.int x)] = some (upT F one x, [c0, s1, .dat (tD one), .dat (.int x)]) := t
  cases e : upT F one x with
  | true =>
    rw [e] at t
    exact (ifs_t t).trans rfl
  | false =>
    rw [e] at t
    exact (ifs_f t).trans rfl
theorem lu_in {s1 c0 : Sl Γ} {F : List P} {one : P} (h0 : isF c0 F) (ho : one.length < 1000) : ∀ (xs : P) (v3 : Sl Γ), ∃ v3', forL (gNm 3) LUI (xs.map .int) [c0, s1, .dat (tD one), v3] = some (if (xs.all fun x => !upT F one x) = true then .nx else .rt (.dat (.bl false)), [c0, s1, .dat (tD one), v3'])
  | [], v3 => ⟨v3, rfl⟩
  | x :: xs, v3 => by
    have t := lu_one (Γ := Γ) (s1 := s1) (x := x) h0 ho
    obtain ⟨v3', q⟩ := lu_in (s1 := s1) h0 ho xs (.dat (.int x))
    rw [List.map_cons, List.all_cons]
    cases e : upT F one x with
    | true =>
      rw [e, if_pos rfl] at t
      exact ⟨_, forL_rt1 rfl t⟩
    | false =>
      rw [e, if_neg (by simp)] at t
      exact ⟨v3', (forL_nx1 rfl t).trans (by rw [q]; rfl)⟩
theorem lu_out {I : P} {F : List P} : ∀ (S : List P) (c0 v2 v3 : Sl Γ), isF c0 F → (∀ f ∈ S, f.length < 1000) → ∃ v2' v3', forL (gNm 2) (mFor (iSeq (mVar 1)) (gNm 3) LUI) (S.map tD) [c0, .dat (tD I), v2, v3] = some (if (S.all fun one => I.all fun x => !upT F one x) = true then .nx else .rt (.dat (.bl false)), [c0, .dat (tD I), v2', v3'])
  | [], c0, v2, v3, _, _ => ⟨v2, v3, rfl⟩
  | f :: S, c0, v2, v3, h0, hS => by
    obtain ⟨v3', t⟩ := lu_in (Γ := Γ) (s1 := .dat (tD I)) (one := f) h0 (hS f List.mem_cons_self) I v3
    have t := for_eq (fi := iSeq (mVar 1)) (env := [c0, .dat (tD I), .dat (tD f), v3]) (ds := I.map .int) rfl t
    rw [List.map_cons, List.all_cons]
    cases e : (I.all fun x => !upT F f x) with
    | false =>
      rw [e, if_neg (by simp)] at t
      exact ⟨_, _, forL_rt1 rfl t⟩
    | true =>
      rw [e, if_pos rfl] at t
      obtain ⟨v2', w3, q⟩ := lu_out (I := I) S c0 (.dat (tD f)) v3' h0 fun g h => hS g (List.mem_cons_of_mem _ h)
      exact ⟨v2', w3, (forL_nx1 rfl t).trans (by rw [q]; rfl)⟩
theorem eval_law_upward {s : Sl Γ} {F : List P} {I : P} (hs : isF s F) (hF : ∀ f ∈ F, f.length < 1000) : f_law_upward (Γ := Γ) [s, .dat (tD I)] = some (.dat (.bl (upB F I)), [.dat (fD F), .dat (tD I)]) := by
  obtain ⟨v2', v3', lp⟩ := lu_out (Γ := Γ) (I := I) (F := F) F (.dat (fD F)) .none .none (.inr rfl) hF
  have q := for_eq (hs.seq (env := [s, .dat (tD I), .none, .none]) (i := 0) rfl) lp
  show mFun 2 2 [2, 3] b_law_upward _ = _
  unfold b_law_upward
  cases e : upB F I with
  | true =>
    have e : (F.all fun one => I.all fun x => !upT F one x) = true := e
    rw [e, if_pos rfl] at q
    exact fun_rt (args := [s, .dat (tD I)]) (np := 2) (loc := 2) (A := [2, 3]) (s := .dat (.bl true)) (e' := [.dat (fD F), .dat (tD I), v2', v3']) rfl rfl ((seq_nx q).trans rfl)
  | false =>
    have e : (F.all fun one => I.all fun x => !upT F one x) = false := e
    rw [e, if_neg (by simp)] at q
    exact fun_rt (args := [s, .dat (tD I)]) (np := 2) (loc := 2) (A := [2, 3]) (s := .dat (.bl false)) (e' := [.dat (fD F), .dat (tD I), v2', v3']) rfl rfl (seq_rt1 q)
end
end K

set_option maxHeartbeats 4000000
namespace K
open PySem L2 G
theorem sok_app (a b : Str) : PyData.strOk (a ++ b) = (PyData.strOk a && PyData.strOk b) := by
  show (a.cps ++ b.cps).all _ = _
  rw [Array.all_append]
  rfl
theorem sok_of (s : String) : PyData.strOk (Str.ofString s) = true := by
  rw [Str.ofString_eq_toList]
  unfold PyData.strOk
  rw [← Array.all_toList]
  refine List.all_eq_true.mpr fun c hc => decide_eq_true ?_
  obtain ⟨z, _, rfl⟩ := List.mem_map.mp hc
  rcases z.valid with h | h
  · have h : z.toNat < 55296 := h
    omega
  · have h : z.toNat < 1114112 := h.2
    exact h
theorem sok_from : ∀ (ts : List Str) (k : Nat) (acc : Str), PyData.strOk acc = true → (∀ t ∈ ts, PyData.strOk t = true) → PyData.strOk (textFrom k acc ts) = true
  | [], _, acc, h, _ => h
  | t :: r, k, acc, h, ht => by
    show PyData.strOk (textFrom (k + 1) (acc ++ Str.ofString (if k > 0 then ", " else "") ++ t) r) = true
    exact sok_from r _ _ (by rw [sok_app, sok_app, h, sok_of, ht t List.mem_cons_self]; rfl) fun u hu => ht u (List.mem_cons_of_mem _ hu)
theorem sok_list {ts : List Str} (h : ∀ t ∈ ts, PyData.strOk t = true) : PyData.strOk (listText ts) = true := by
  show PyData.strOk (textFrom 0 (Str.ofString "[") ts ++ Str.ofString "]") = true
  rw [sok_app, sok_from ts 0 _ (sok_of _) h, sok_of]
  rfl
theorem sok_join {sep : Str} (hs : PyData.strOk sep = true) : ∀ (ts : List Str), (∀ t ∈ ts, PyData.strOk t = true) → PyData.strOk (Str.join sep ts) = true
  | [], _ => by
    show PyData.strOk Str.empty = true
    simp [PyData.strOk, Str.empty]
  | [x], h => h x List.mem_cons_self
  | x :: y :: r, h => by
    show PyData.strOk (x ++ sep ++ Str.join sep (y :: r)) = true
    rw [sok_app, sok_app, h x List.mem_cons_self, hs, sok_join hs (y :: r) fun t ht => h t (List.mem_cons_of_mem _ ht)]
    rfl
theorem sok_tuple {ts : List Str} (h : ∀ t ∈ ts, PyData.strOk t = true) : PyData.strOk (tupleText ts) = true := by
  show PyData.strOk (Str.ofString "(" ++ Str.join (Str.ofString ", ") ts ++ Str.ofString (if ts.length == 1 then ",)" else ")")) = true
  rw [sok_app, sok_app, sok_of, sok_of, sok_join (sok_of _) ts h]
  rfl
/-- can be shown, with weight w at most -/
structure sh (w : Nat) (d : G.D) : Prop where
  s : d.toPy.showable = true
  l : d.toPy.leavesShort 31 = true
  w : d.toPy.weight ≤ w
  o : PyData.strOk d.toPy.shown = true
theorem sh.mono {w v : Nat} {d : G.D} (h : sh w d) (hv : w ≤ v) : sh v d := ⟨h.s, h.l, Nat.le_trans h.w hv, h.o⟩
def isNo (n : Int) : Prop := -100000000000000000000000000000 ≤ n ∧ n < 10000000000000000000000000000000
theorem ofS_len (s : String) : (Str.ofString s).length = s.length := PyProof.Rows.ofString_length s
theorem int_len {n : Int} (h : isNo n) : (Str.ofString (toString n)).length ≤ 31 := by
  obtain ⟨h1, h2⟩ := h
  cases n with
  | ofNat m => exact PyProof.Rows.toString_length_le (v := Int.ofNat m) (Int.natCast_nonneg m) (k := 31) (by decide) (by have : (10 : Int) ^ 31 = 10000000000000000000000000000000 := by decide
                                                                                                                         omega)
  | negSucc m =>
    have l := PyProof.Rows.toString_length_le (v := ((m + 1 : Nat) : Int)) (Int.natCast_nonneg _) (k := 30) (by decide) (by
      have : (10 : Int) ^ 30 = 1000000000000000000000000000000 := by decide
      omega)
    rw [ofS_len] at l ⊢
    show ("-" ++ toString (m + 1)).length ≤ 31
    rw [String.length_append]
    have l : (toString (m + 1)).length ≤ 30 := l
    have : ("-" : String).length = 1 := by decide
    omega
theorem sh_int {n : Int} (h : isNo n) : sh 110 (.int n) := by
  have h1 : n.natAbs < 2 ^ 110 := by
    have : (2 : Nat) ^ 110 = 1298074214633706907132624082305024 := by decide
    obtain ⟨a, b⟩ := h
    omega
  refine ⟨?_, ?_, ?_, ?_⟩
  · simp only [D.toPy, PyData.showable, decide_eq_true_eq]
    by_cases h0 : n.natAbs = 0
    · rw [h0]; decide
    · have := (Nat.log2_lt h0 (k := 110)).mpr h1
      omega
  · simp only [D.toPy, PyData.leavesShort]
    refine decide_eq_true ?_
    simp only [PyData.shown]
    exact int_len h
  · simp only [D.toPy, PyData.weight]
    split
    · omega
    · rename_i z
      have nz : n.natAbs ≠ 0 := fun e => z (by have : n = 0 := by omega
                                               rw [this]; rfl)
      have := (Nat.log2_lt nz (k := 110)).mpr h1
      omega
  · simp only [D.toPy, PyData.shown]
    exact sok_of _
theorem sh_all {w : Nat} : ∀ ds : List G.D, (∀ d ∈ ds, sh w d) → PyData.showableAll (D.toPys ds) = true ∧ PyData.leavesShortAll 31 (D.toPys ds) = true ∧ PyData.weightAll (D.toPys ds) ≤ (w + 1) * ds.length ∧ ∀ t ∈ PyData.shownAll (D.toPys ds), PyData.strOk t = true
  | [], _ => ⟨rfl, rfl, Nat.zero_le _, fun _ z => by simp only [D.toPys, PyData.shownAll] at z; cases z⟩
  | d :: ds, h => by
    obtain ⟨h1, h2, h3, h4⟩ := h d List.mem_cons_self
    obtain ⟨i1, i2, i3, i4⟩ := sh_all ds fun e he => h e (List.mem_cons_of_mem _ he)
    simp only [D.toPys, PyData.showableAll, PyData.leavesShortAll, PyData.weightAll, PyData.shownAll, h1, h2, i1, i2, Bool.and_self]
    refine ⟨trivial, trivial, ?_, fun t ht => ?_⟩
    · rw [List.length_cons, Nat.mul_succ]
      omega
    · rcases List.mem_cons.mp ht with z | z
      · rw [z]; exact h4
      · exact i4 t z
theorem sh_lst {w m : Nat} {ds : List G.D} (h : ∀ d ∈ ds, sh w d) (hm : ds.length ≤ m) : sh ((w + 1) * m) (.lst ds) := by
  obtain ⟨i1, i2, i3, i4⟩ := sh_all ds h
  refine ⟨?_, ?_, ?_, ?_⟩
  · simp only [D.toPy, PyData.showable]; exact i1
  · simp only [D.toPy, PyData.leavesShort]; exact i2
  · simp only [D.toPy, PyData.weight]; exact Nat.le_trans i3 (Nat.mul_le_mul_left _ hm)
  · simp only [D.toPy, PyData.shown]; exact sok_list i4
theorem sh_tup {w m : Nat} {ds : List G.D} (h : ∀ d ∈ ds, sh w d) (hm : ds.length ≤ m) : sh ((w + 1) * m) (.tup ds) := by
  obtain ⟨i1, i2, i3, i4⟩ := sh_all ds h
  refine ⟨?_, ?_, ?_, ?_⟩
  · simp only [D.toPy, PyData.showable]; exact i1
  · simp only [D.toPy, PyData.leavesShort]; exact i2
  · simp only [D.toPy, PyData.weight]; exact Nat.le_trans i3 (Nat.mul_le_mul_left _ hm)
  · simp only [D.toPy, PyData.shown]; exact sok_tuple i4
/-- the text -/
def tx (d : G.D) : Str := d.toPy.shown
/-- repr(d) is its text -/
structure RP (d : G.D) : Prop where
  e : shD d = some (tx d)
  o : okD (.str (tx d)) = true
theorem rp_mk {w k : Nat} {d : G.D} (h : lay k d) (hk : k ≤ 60) (s : sh w d) (hw : w ≤ 400000) : RP d := by
  have l := PyData.shown_le 31 (by decide) d.toPy s.l
  have hz : d.toPy.shown.length ≤ sizeLine := by
    have : sizeLine = 16777216 := by decide
    have := s.w
    omega
  have ok : okD d = true := by
    unfold okD SeqAt.shaped
    rw [h.1, decide_eq_true (Nat.le_trans h.2 (Nat.le_trans hk (by decide)))]
    rfl
  refine ⟨?_, okD_str s.o⟩
  unfold shD tx
  rw [if_pos (by rw [ok, s.s, decide_eq_true hz]; rfl)]
theorem eqD_self (x : Str) : eqD (.str x) (.str x) = true := by
  simp [eqD, D.toPy, PyData.eqv]
theorem sh_part {p : Fam.P} (h : ∀ n ∈ p, isNo n) (hl : p.length ≤ 6) : sh 666 (tD p) := sh_tup (w := 110) (m := 6) (fun d hd => by
  obtain ⟨n, hn, rfl⟩ := List.mem_map.mp hd
  exact sh_int (h n hn)) (by rw [List.length_map]; exact hl)
theorem rp_fam {F : List Fam.P} (h : ∀ p ∈ F, (∀ n ∈ p, isNo n) ∧ p.length ≤ 6) (hl : F.length ≤ 64) : RP (.lst (F.map tD)) := rp_mk (k := 2) (lay_lst fun d hd => by
  obtain ⟨p, _, rfl⟩ := List.mem_map.mp hd
  exact lay_tD p) (by decide) (sh_lst (w := 666) (m := 64) (fun d hd => by
  obtain ⟨p, hp, rfl⟩ := List.mem_map.mp hd
  exact sh_part (h p hp).1 (h p hp).2) (by rw [List.length_map]; exact hl)) (by decide)
theorem rp_bl (b : Bool) : RP (.bl b) := rp_mk (k := 0) (lay_bl b) (by decide) (w := 1020) (by refine ⟨?_, ?_, ?_, ?_⟩ <;> cases b <;> decide +kernel) (by decide)
section
variable {Γ : Gam}
variable {env e1 e2 e3 : Env Γ} {s t u : Sl Γ} {q q' : Qe Γ} {p p' : Qs Γ} {c c' : Qt Γ} {as : List (XA Γ)} {xs : List (Ag Γ)} {b b' : Bool} {i j g : Nat} {fl : Fl Γ} {x : Er} {d : G.D}
theorem repr_is (hv : s.view = some d) (h : RP d) : pRepr (Γ := Γ) s = some (.dat (.str (tx d))) := by
  unfold pRepr
  rw [hv]
  simp only [h.e, Option.map_some]
theorem pne_is (h : RP d) : pNe (Γ := Γ) (.dat (.str (tx d))) (.dat (.str (tx d))) = some (.dat (.bl false)) := by
  unfold pNe pEqG
  simp only [Sl.view, h.o, Bool.and_self, if_true, eqD_self]
  rfl
theorem peq_is (h : RP d) : pEq (Γ := Γ) (.dat (.str (tx d))) (.dat (.str (tx d))) = some (.dat (.bl true)) := by
  unfold pEq pEqG
  simp only [Sl.view, h.o, Bool.and_self, if_true, eqD_self]
  rfl
theorem mrepr_b (h : env[i]? = some s) (hv : s.view = some d) (r : RP d) : mN (pN1 pRepr) [.brw i] env = some (.dat (.str (tx d)), env) := by
  have g0 : got (some s) = some s := by cases s <;> first | rfl | cases hv
  simp only [mN, evAs, evA, h, g0, Option.map_some, peeks, peek, pN1, repr_is hv r]
theorem mrepr_x {f : Ev Γ} (h : f env = some (s, e1)) (hv : s.view = some d) (r : RP d) : mN (pN1 pRepr) [.ex f] env = some (.dat (.str (tx d)), e1) := by
  simp only [mN, evAs, evA, h, Option.map_some, peeks, peek, pN1, repr_is hv r]
def Qv (q : Qe Γ) (env : Env Γ) (s : Sl Γ) (e : Env Γ) : Prop := ∀ (K : Sl Γ → Env Γ → Prop) (KX : Er → Env Γ → Prop), K s e → q env K KX
def Tv (q : Qt Γ) (env : Env Γ) (b : Bool) (e : Env Γ) : Prop := ∀ (K : Bool → Env Γ → Prop) (KX : Er → Env Γ → Prop), K b e → q env K KX
def Sv (q : Qs Γ) (env : Env Γ) (fl : Fl Γ) (e : Env Γ) : Prop := ∀ (K : Fl Γ → Env Γ → Prop) (KX : Er → Env Γ → Prop), K fl e → q env K KX
def Av (as : List (XA Γ)) (env : Env Γ) (xs : List (Ag Γ)) (e : Env Γ) : Prop := ∀ (K : List (Ag Γ) → Env Γ → Prop) (KX : Er → Env Γ → Prop), K xs e → evX as env K KX
def Fv (g : Fx Γ) (args : List (Sl Γ)) (r : Sl Γ) (args' : List (Sl Γ)) : Prop := ∀ (K : Sl Γ → List (Sl Γ) → Prop) (KX : Er → List (Sl Γ) → Prop), K r args' → g args K KX
theorem qv_e {f : Ev Γ} (h : f env = some (s, e1)) : Qv (xE f) env s e1 := fun K KX k => ⟨s, e1, h, k⟩
theorem sv_s {f : Es Γ} (h : f env = some (fl, e1)) : Sv (xS f) env fl e1 := fun K KX k => ⟨fl, e1, h, k⟩
theorem av_nil : Av (Γ := Γ) [] env [] env := fun K KX k => k
theorem av_brw (h : env[i]? = some s) (hs : s ≠ .none) (r : Av as env xs e1) : Av (.brw i :: as) env (.brw i :: xs) e1 := fun K KX k => ⟨⟨s, by rw [h]; cases s <;> first | rfl | exact absurd rfl hs⟩, r _ KX k⟩
theorem av_ex (h : Qv q env s e1) (r : Av as e1 xs e2) : Av (.ex q :: as) env (.val s :: xs) e2 := fun K KX k => h _ KX (r _ KX k)
theorem qv_n {pr : List (Sl Γ) → Option (Sl Γ)} {ss : List (Sl Γ)} (h : Av as env xs e1) (h1 : peeks xs e1 = some ss) (h2 : pr (ss.map (vw g e1)) = some s) : Qv (xN g pr as) env s e1 := fun K KX k => h _ KX ⟨ss, s, h1, h2, k⟩
theorem tv_t (h : Qv q env (.dat (.bl b)) e1) : Tv (xT q) env b e1 := fun K KX k => h _ KX ⟨b, rfl, k⟩
theorem tv_tru {a : XA Γ} (h : Av [a] env xs e1) (h1 : peeks xs e1 = some [s]) (h2 : truth (vw g e1 s) = some b) : Tv (xTru g a) env b e1 := fun K KX k => h _ KX ⟨s, b, h1, h2, k⟩
theorem tv_not (h : Tv c env b e1) : Tv (xNotT c) env (!b) e1 := fun K KX k => h _ KX k
theorem tv_or_f (h : Tv c env false e1) (h' : Tv c' e1 b e2) : Tv (xOrT c c') env b e2 := fun K KX k => h _ KX (by
  rw [if_neg Bool.false_ne_true]
  exact h' _ KX k)
theorem sv_if_f (h : Tv c env false e1) (h' : Sv p' e1 fl e2) : Sv (xIfS c p p') env fl e2 := fun K KX k => h _ KX (by
  rw [if_neg Bool.false_ne_true]
  exact h' _ KX k)
theorem sv_nx : Sv (Γ := Γ) xNx env .nx env := fun K KX k => k
theorem vw_dat {d : G.D} (h : ∀ a, d ≠ .raw a) : vw g env (.dat d) = .dat d := by
  unfold vw
  split
  · rename_i a root gr e1 e2
    cases e1
    exact absurd rfl (h _)
  · rfl
theorem nxD_eq {ds : List G.D} : ∀ i, nxD (Γ := Γ) ds i env = some ds[i]? := fun _ => rfl
def Iv (qi : Qi Γ) (env : Env Γ) (nxt : Nxt Γ) (n : Nat) (e : Env Γ) : Prop := ∀ (K : Nxt Γ → Nat → Env Γ → Prop) (KX : Er → Env Γ → Prop), K nxt n e → qi env K KX
theorem iv_i {f : Ei Γ} {ds : List G.D} (h : f env = some (ds, e1)) : Iv (xI f) env (nxD ds) ds.length e1 := fun K KX k => ⟨ds, e1, h, k⟩
def Sw (q : Qs Γ) (env : Env Γ) (P : Fl Γ → Env Γ → Prop) : Prop := ∀ (K : Fl Γ → Env Γ → Prop) (KX : Er → Env Γ → Prop), (∀ s e, P s e → K s e) → q env K KX
def Fw (g : Fx Γ) (args : List (Sl Γ)) (P : Sl Γ → List (Sl Γ) → Prop) : Prop := ∀ (K : Sl Γ → List (Sl Γ) → Prop) (KX : Er → List (Sl Γ) → Prop), (∀ s e, P s e → K s e) → g args K KX
theorem Sv.w (h : Sv p env fl e1) : Sw p env fun t e => t = fl ∧ e = e1 := fun K KX k => h K KX (k _ _ ⟨rfl, rfl⟩)
theorem Fv.w {g : Fx Γ} {args args' : List (Sl Γ)} (h : Fv g args s args') : Fw g args fun t e => t = s ∧ e = args' := fun K KX k => h K KX (k _ _ ⟨rfl, rfl⟩)
theorem Sw.imp {P P' : Fl Γ → Env Γ → Prop} (h : Sw p env P) (k : ∀ s e, P s e → P' s e) : Sw p env P' := fun K KX k' => h K KX fun s e z => k' s e (k s e z)
theorem Fw.imp {g : Fx Γ} {args : List (Sl Γ)} {P P' : Sl Γ → List (Sl Γ) → Prop} (h : Fw g args P) (k : ∀ s e, P s e → P' s e) : Fw g args P' := fun K KX k' => h K KX fun s e z => k' s e (k s e z)
theorem sw_seq {P : Env Γ → Prop} {P' : Fl Γ → Env Γ → Prop} (h : Sw p env fun fl e => fl = .nx ∧ P e) (h' : ∀ e, P e → Sw p' e P') : Sw (xSeq p p') env P' := fun K KX k => h _ KX fun fl e ⟨z, y⟩ => by
  subst z
  exact h' e y K KX k
theorem sw_vseq {P' : Fl Γ → Env Γ → Prop} (h : Sv p env .nx e1) (h' : Sw p' e1 P') : Sw (xSeq p p') env P' := fun K KX k => h _ KX (h' K KX k)
theorem fw_of {np loc : Nat} {A : List Nat} {args e0 : List (Sl Γ)} {P : Sl Γ → List (Sl Γ) → Prop} (h0 : args ++ List.replicate loc .none = e0) (h1 : args.length = np) (h2 : ((A.filter (· < np)).all fun i => match args[i]? with | some s => nonOwn s | none => true) = true) (h : Sw p e0 fun fl e => ∃ s, fl = .rt s ∧ P s (backE args (e.take np) (A.filter (· < np)))) : Fw (xFun np loc A p) args P := fun K KX k => by
  subst h0
  exact ⟨h1, h2, h _ _ fun fl e ⟨s, z, y⟩ => by
    subst z
    exact k _ _ y⟩
theorem forX_w {nxt : Nxt Γ} {tg : Eg Γ} {K : Fl Γ → Env Γ → Prop} {KX : Er → Env Γ → Prop} {ds : List G.D} (Inv : Nat → Env Γ → Prop) (hn : ∀ i e, Inv i e → nxt i e = some ds[i]?) (st : ∀ i d e, ds[i]? = some d → Inv i e → ∃ e1, tg d e = some e1 ∧ Sw p e1 fun fl e2 => fl = .nx ∧ Inv (i + 1) e2) (k : ∀ e, Inv ds.length e → K .nx e) :
    ∀ (m : Nat) (e : Env Γ), m ≤ ds.length → Inv (ds.length - m) e → forX nxt ds.length tg p K KX m e
  | 0, e, _, h => ⟨by rw [Nat.sub_zero] at h; rw [hn _ _ h]; simp, k e h⟩
  | m + 1, e, hm, h => by
    have lt : ds.length - (m + 1) < ds.length := by omega
    have ed := List.getElem?_eq_getElem lt
    obtain ⟨e1, t1, t2⟩ := st _ _ e ed h
    refine ⟨ds[ds.length - (m + 1)], by rw [hn _ _ h, ed], e1, t1, t2 _ KX fun fl e2 ⟨z, y⟩ => ?_⟩
    subst z
    have en : ds.length - (m + 1) + 1 = ds.length - m := by omega
    rw [en] at y
    exact forX_w Inv hn st k m e2 (by omega) y
theorem sw_for {qi : Qi Γ} {nxt : Nxt Γ} {tg : Eg Γ} {ds : List G.D} (Inv : Nat → Env Γ → Prop) (hi : Iv qi env nxt ds.length e1) (h0 : Inv 0 e1) (hn : ∀ i e, Inv i e → nxt i e = some ds[i]?) (st : ∀ i d e, ds[i]? = some d → Inv i e → ∃ e1, tg d e = some e1 ∧ Sw p e1 fun fl e2 => fl = .nx ∧ Inv (i + 1) e2) : Sw (xFor qi tg p) env fun fl e => fl = .nx ∧ Inv ds.length e := fun K KX k =>
  hi _ KX (forX_w Inv hn st (fun e z => k _ _ ⟨rfl, z⟩) ds.length e1 (Nat.le_refl _) (by rw [Nat.sub_self]; exact h0))
end
end K

set_option maxHeartbeats 400000
namespace K
open PySem L2 G Fam
structure Fam6 (I : P) (F : List P) : Prop where
  u : Up I
  l : I.length ≤ 6
  no : ∀ n ∈ I, isNo n
  nd : F.Nodup
  m : ∀ f ∈ F, Up f ∧ sub f I
theorem fam_len {I : P} (hI : Up I) (h6 : I.length ≤ 6) {l : List P} (hn : l.Nodup) (hm : ∀ t ∈ l, Up t ∧ sub t I) : l.length ≤ 64 := by
  obtain ⟨_, a2⟩ := allp_spec hI
  have h := nd_len hn fun t ht => (a2 t).mpr (hm t ht)
  have e : (allp I).length = 2 ^ I.length := by unfold allp; rw [allp_len]; simp
  rw [e] at h
  have : 2 ^ I.length ≤ 2 ^ 6 := Nat.pow_le_pow_right (by decide) h6
  omega
theorem part_len {I p : P} (h6 : I.length ≤ 6) (h : Up p ∧ sub p I) : p.length ≤ 6 := Nat.le_trans (sub_len (up_nodup h.1) h.2) h6
theorem Fam6.rp {I : P} {F G : List P} (h : Fam6 I F) (hn : G.Nodup) (hm : ∀ t ∈ G, Up t ∧ sub t I) : RP (.lst (G.map tD)) := rp_fam (fun p hp => ⟨fun n hn => h.no n ((hm p hp).2 n hn), part_len h.l (hm p hp)⟩) (fam_len h.u h.l hn hm)
theorem ts_nd {l : List P} (h : TS l) : l.Nodup := List.nodup_iff_pairwise_ne.mpr (h.imp fun h => h.2)
theorem Fam6.least {I : P} {F : List P} (h : Fam6 I F) : TS (least F) ∧ ∀ t ∈ least F, Up t ∧ sub t I := by
  obtain ⟨a, b⟩ := least_spec (F := F) fun f hf => (h.m f hf).1
  exact ⟨a, fun t ht => h.m t ((b t).mp ht).1⟩
theorem Fam6.blk {I : P} {F : List P} (h : Fam6 I F) : TS (blk F) ∧ ∀ t ∈ blk F, Up t ∧ sub t I := by
  obtain ⟨a, b⟩ := blk_spec (F := F) fun f hf => (h.m f hf).1
  exact ⟨a, fun t ht => ⟨((b t).mp ht).1, mh_in ((b t).mp ht) fun f hf => (h.m f hf).2⟩⟩
section
variable {Γ : Gam} {I : P} {F : List P} {s : Sl Γ}
abbrev RF (I : P) (s c a b : Sl Γ) : Env Γ := [.dat (tD I), s, c, a, b]
theorem or_ff {p q : Et Γ} {env e1 e2 : Env Γ} (h1 : p env = some (false, e1)) (h2 : q e1 = some (false, e2)) : mOrT p q env = some (false, e2) := by
  unfold mOrT
  rw [h1]
  exact h2
theorem up_call (h : Fam6 I F) (hs : isF s F) {c a b : Sl Γ} : mCall 2 f_is_upward [.brw 1, .brw 0] (RF I s c a b) = some (.dat (.bl (upB F I)), RF I (.dat (fD F)) c a b) := by
  have fl := fam_len h.u h.l h.nd h.m
  have e := eval_upward (Γ := Γ) (I := I) hs (by omega) fun f hf => by have := part_len h.l (h.m f hf); omega
  rcases hs with rfl | rfl
  · have g1 : got (some (Sl.dat (Γ := Γ) (tD I))) = some (.dat (tD I)) := rfl
    have n1 : nonOwn (Sl.dat (Γ := Γ) (tD I)) = true := rfl
    have g2 : got (some (Sl.lst (Γ := Γ) (F.map tD))) = some (.lst (F.map tD)) := rfl
    have n2 : nonOwn (Sl.lst (Γ := Γ) (F.map tD)) = false := rfl
    simp [mCall, evAs, evA, takeA, g1, g2, n1, n2, e, putA]
  · exact call_dd (env := RF I (.dat (fD F)) c a b) rfl rfl e
theorem bl_callD (h : Fam6 I F) {a b s : Sl Γ} : mCall 2 f_law_blockers [.brw 0, .brw 2] (RF I s (.dat (fD F)) a b) = some (.lst ((blk F).map tD), RF I s (.dat (fD F)) a b) := by
  have fl := fam_len h.u h.l h.nd h.m
  obtain ⟨s', _, hd, e⟩ := eval_law_blockers (Γ := Γ) (s := .dat (fD F)) (F := F) h.u h.l (.inr rfl) (by omega) fun f hf => by have := part_len h.l (h.m f hf); omega
  rw [hd rfl, law_blk h.u (fun f hf => (h.m f hf).1) fun f hf => (h.m f hf).2] at e
  exact call_dd (env := RF I s (.dat (fD F)) a b) rfl rfl e
theorem ll_callD (h : Fam6 I F) {a b s c : Sl Γ} (hc : isF c F) : mCall 1 f_law_least [.brw 2] (RF I s c a b) = some (.lst ((least F).map tD), RF I s (.dat (fD F)) a b) := by
  have fl := fam_len h.u h.l h.nd h.m
  have e := eval_law_least (Γ := Γ) hc (by omega) fun f hf => by have := part_len h.l (h.m f hf); omega
  rw [law_least (fun f hf => (h.m f hf).1) h.nd] at e
  rcases hc with rfl | rfl
  · exact (call_b1 (env := RF I s (.lst (F.map tD)) a b) (b := 2) rfl rfl e).trans rfl
  · exact call_dat (env := RF I s (.dat (fD F)) a b) (b := 2) rfl e
theorem lo_call (h : Fam6 I F) (hs : isF s F) {c a b : Sl Γ} : mCall 1 f_least_of [.brw 1] (RF I s c a b) = some (.lst ((least F).map tD), RF I s c a b) := by
  have fl := fam_len h.u h.l h.nd h.m
  exact call_isF rfl hs (eval_least hs (by omega) fun f hf => by have := part_len h.l (h.m f hf); omega)
theorem bk_call (h : Fam6 I F) (hs : isF s F) {c a b : Sl Γ} : mCall 1 f_blockers [.brw 1] (RF I s c a b) = some (.lst ((blk F).map tD), RF I s c a b) := by
  have fl := fam_len h.u h.l h.nd h.m
  exact call_isF rfl hs (eval_blockers h.u h.l hs (by omega) (fun f hf => (h.m f hf).1) fun f hf => (h.m f hf).2)
theorem bb_call (h : Fam6 I F) {s c a : Sl Γ} : mCall 1 f_blockers [.brw 4] (RF I s c a (.lst ((blk F).map tD))) = some (.lst ((least F).map tD), RF I s c a (.lst ((blk F).map tD))) := by
  obtain ⟨b1, b2⟩ := h.blk
  have bl := fam_len h.u h.l (ts_nd b1) b2
  have e := eval_blockers (Γ := Γ) (s := .lst ((blk F).map tD)) (F := blk F) h.u h.l (.inl rfl) (by omega) (fun f hf => (b2 f hf).1) fun f hf => (b2 f hf).2
  rw [blk_blk h.u (fun f hf => (h.m f hf).1) fun f hf => (h.m f hf).2] at e
  exact call_isF (env := RF I s c a (.lst ((blk F).map tD))) (i := 4) (F := blk F) rfl (.inl rfl) e
theorem fv_right (h : Fam6 I F) (hs : isF s F) : Fv (Γ := Γ) g_law_right [.dat (tD I), s] (.dat (.bl true)) [.dat (tD I), .dat (fD F)] := by
  obtain ⟨a1, a2⟩ := h.least
  obtain ⟨b1, b2⟩ := h.blk
  have rL := h.rp (ts_nd a1) a2
  have rB := h.rp (ts_nd b1) b2
  have fl := fam_len h.u h.l h.nd h.m
  let LL : Sl Γ := .lst ((least F).map tD)
  let BB : Sl Γ := .lst ((blk F).map tD)
  have q1 : mSet 2 (mN (pN1 pList) [.brw 1]) (RF I s .none .none .none) = some (.nx, RF I s (.lst (F.map tD)) .none .none) := by
    have : mN (pN1 pList) [.brw 1] (RF I s .none .none .none) = some (.lst (F.map tD), RF I s .none .none .none) := by
      rcases hs with rfl | rfl <;> simp [mN, evAs, evA, got, peeks, peek, pN1, pList, Sl.view]
    exact (set_eq this (by show 2 < 5; decide)).trans rfl
  have q2 : mPar 3 4 (mCall 1 f_least_of [.brw 1]) (mCall 1 f_blockers [.brw 1]) (RF I s (.lst (F.map tD)) .none .none) = some (.nx, RF I s (.lst (F.map tD)) LL BB) := (par_eq (lo_call h hs) (bk_call h hs) (by show 3 < 5; decide) (by show 4 < 5; decide)).trans rfl
  have q3 : mIfS (mOrT (toT (m2 pNe (.ex (mN (pN1 pRepr) [.brw 3])) (.ex (mN (pN1 pRepr) [.ex (mCall 1 f_law_least [.brw 2])])))) (toT (m2 pNe (.ex (mN (pN1 pRepr) [.brw 4])) (.ex (mN (pN1 pRepr) [.ex (mCall 2 f_law_blockers [.brw 0, .brw 2])]))))) (mRet (mC (.bl false))) (mNx) (RF I s (.lst (F.map tD)) LL BB) = some (.nx, RF I s (.dat (fD F)) LL BB) :=
    (ifs_f (or_ff (toT_eq (m2_ex (mrepr_b (i := 3) rfl rfl rL) (mrepr_x (ll_callD h (.inl rfl)) rfl rL) (pne_is rL))) (toT_eq (m2_ex (mrepr_b (i := 4) rfl rfl rB) (mrepr_x (bl_callD h) rfl rB) (pne_is rB))))).trans rfl
  have eU := eval_law_upward (Γ := Γ) (s := .dat (fD F)) (F := F) (I := I) (.inr rfl) fun f hf => by have := part_len h.l (h.m f hf); omega
  have cu : mCall 2 f_law_upward [.brw 2, .brw 0] (RF I (.dat (fD F)) (.dat (fD F)) LL BB) = some (.dat (.bl (upB F I)), RF I (.dat (fD F)) (.dat (fD F)) LL BB) := call_dd rfl rfl eU
  have nf : m2 pNe (.brw 1) (.brw 2) (RF I (.dat (fD F)) (.dat (fD F)) LL BB) = some (.dat (.bl false), RF I (.dat (fD F)) (.dat (fD F)) LL BB) := by
    refine m2_bb (s := .dat (fD F)) (t := .dat (fD F)) rfl rfl rfl rfl ?_
    have hv : (Sl.dat (Γ := Γ) (fD F)).view = some (fD F) := rfl
    unfold pNe pEqG
    simp only [hv, ok_fam, Bool.and_self, if_true, eqRefl (ok_fam F)]
    rfl
  have q4 : mIfS (mOrT (toT (m2 pNe (.ex (mN (pN1 pRepr) [.ex (mCall 2 f_is_upward [.brw 1, .brw 0])])) (.ex (mN (pN1 pRepr) [.ex (mCall 2 f_law_upward [.brw 2, .brw 0])])))) (toT (m2 pNe (.brw 1) (.brw 2)))) (mRet (mC (.bl false))) (mNx) (RF I s (.dat (fD F)) LL BB) = some (.nx, RF I (.dat (fD F)) (.dat (fD F)) LL BB) :=
    (ifs_f (or_ff (toT_eq (m2_ex (mrepr_x (up_call h hs) rfl (rp_bl _)) (mrepr_x cu rfl (rp_bl _)) (pne_is (rp_bl _)))) (toT_eq nf))).trans rfl
  have q5 : mIfS (toT (m2 pNe (.ex (mN (pN1 pRepr) [.ex (mCall 1 f_blockers [.brw 4])])) (.ex (mN (pN1 pRepr) [.brw 3])))) (mRet (mC (.bl false))) (mNx) (RF I (.dat (fD F)) (.dat (fD F)) LL BB) = some (.nx, RF I (.dat (fD F)) (.dat (fD F)) LL BB) :=
    (ifs_f (toT_eq (m2_ex (mrepr_x (bb_call h) rfl rL) (mrepr_b (i := 3) rfl rfl rL) (pne_is rL)))).trans rfl
  have h0 : (0 : Nat) ≤ sizeLine := by decide
  have q6 : ∃ k3, mDrop (mMut 3 uAppend [.ex (mN pTupN [])]) (RF I (.dat (fD F)) (.dat (fD F)) LL BB) = some (.nx, RF I (.dat (fD F)) (.dat (fD F)) k3 BB) := by
    have tp : mN pTupN [] (RF I (.dat (fD F)) (.dat (fD F)) LL BB) = some (.dat (tD []), RF I (.dat (fD F)) (.dat (fD F)) LL BB) := by
      simp [mN, evAs, peeks, pTupN, allDat, h0, tD]
    have ll := fam_len h.u h.l (ts_nd a1) a2
    have ap : uAppend (Γ := Γ) ((least F).map tD) [.dat (tD [])] = some (.non, (least F).map tD ++ [tD []]) := by
      show (if ((least F).map tD).length < sizeLine then some (G.D.non, (least F).map tD ++ [tD []]) else none) = _
      rw [if_pos (Nat.lt_of_lt_of_le (by rw [List.length_map]; omega : _ < 1000) (by decide))]
    refine ⟨.lst ((least F).map tD ++ [tD []]), ?_⟩
    simp only [mDrop, mMut, evAs, evA, tp, Option.map_some, List.getElem?_cons_succ, List.getElem?_cons_zero, peeks, peek, ap, List.set_cons_succ, List.set_cons_zero, LL]
  obtain ⟨k3, q6⟩ := q6
  have q7 : mDrop (mMut 4 uClear []) (RF I (.dat (fD F)) (.dat (fD F)) k3 BB) = some (.nx, RF I (.dat (fD F)) (.dat (fD F)) k3 (.lst [])) := by
    simp [mDrop, mMut, evAs, peeks, uClear, BB]
  have q8 : mRet (mAndV (m2 pEq (.ex (mN (pN1 pRepr) [.ex (mCall 1 f_least_of [.brw 1])])) (.ex (mN (pN1 pRepr) [.ex (mCall 1 f_law_least [.brw 2])]))) (m2 pEq (.ex (mN (pN1 pRepr) [.ex (mCall 1 f_blockers [.brw 1])])) (.ex (mN (pN1 pRepr) [.ex (mCall 2 f_law_blockers [.brw 0, .brw 2])])))) (RF I (.dat (fD F)) (.dat (fD F)) k3 (.lst [])) = some (.rt (.dat (.bl true)), RF I (.dat (fD F)) (.dat (fD F)) k3 (.lst [])) := by
    refine ret_eq ?_
    have e1 := m2_ex (mrepr_x (lo_call (I := I) (s := .dat (fD F)) (c := .dat (fD F)) (a := k3) (b := .lst []) h (.inr rfl)) rfl rL) (mrepr_x (ll_callD (s := .dat (fD F)) (a := k3) (b := .lst []) h (.inr rfl)) rfl rL) (peq_is rL)
    have e2 := m2_ex (mrepr_x (bk_call (I := I) (s := .dat (fD F)) (c := .dat (fD F)) (a := k3) (b := .lst []) h (.inr rfl)) rfl rB) (mrepr_x (bl_callD (s := .dat (fD F)) (a := k3) (b := .lst []) h) rfl rB) (peq_is rB)
    unfold mAndV
    rw [e1]
    exact e2
  have body : Sw (Γ := Γ) b_law_right (RF I s .none .none .none) fun fl e => ∃ t, fl = .rt t ∧ t = .dat (.bl true) ∧ e.take 2 = [.dat (tD I), .dat (fD F)] := by
    unfold b_law_right
    refine sw_vseq (sv_s q1) ?_
    refine sw_vseq (sv_s q2) ?_
    refine sw_vseq (sv_s q3) ?_
    refine sw_vseq (sv_s q4) ?_
    refine sw_vseq (sv_s q5) ?_
    refine sw_vseq (sv_s q6) ?_
    refine sw_vseq (sv_s q7) ?_
    exact (sv_s q8).w.imp fun fl e ⟨h1, h2⟩ => ⟨_, h1, rfl, by rw [h2]; rfl⟩
  have fw := fw_of (p := b_law_right) (np := 2) (loc := 3) (A := [2, 3, 4]) (args := [.dat (tD I), s]) (e0 := RF I s .none .none .none) (P := fun t a => t = .dat (.bl true) ∧ a = [.dat (tD I), .dat (fD F)]) rfl rfl rfl (body.imp fun fl e ⟨t, h1, h2, h3⟩ => ⟨t, h1, h2, by rw [h3]; rfl⟩)
  exact fun K KX k => fw K KX fun t a ⟨h1, h2⟩ => by rw [h1, h2]; exact k
end
end K

set_option maxHeartbeats 400000
namespace K
open PySem L2 G Fam
section
variable {Γ : Gam}
theorem or_f2 {p q : Et Γ} {env e1 e2 : Env Γ} {b : Bool} (h1 : p env = some (false, e1)) (h2 : q e1 = some (b, e2)) : mOrT p q env = some (b, e2) := by
  unfold mOrT
  rw [h1]
  exact h2
theorem at_last (ys : P) (y : Int) : atI ((ys ++ [y]).map G.D.int) (-1) = some (.int y) := by
  have l : (((ys ++ [y]).map G.D.int).length : Int) = ys.length + 1 := by simp
  have e : (-1 + ((ys.length : Int) + 1)).toNat = ys.length := by omega
  unfold atI ixN
  rw [l, if_neg (by decide), if_pos (by omega), Option.bind_some]
  have e2 : (((ys.length : Int) + 1) + -1).toNat = ys.length := by omega
  first
    | rw [e]
    | rw [e2]
  simp
abbrev STC : Et Γ := mOrT (mNotT (mT (.brw 2))) (toT (m2 pGt (.brw 3) (.ex (m2 pIx (.brw 2) (.ex (m1 pNeg (.ex (mC (.int 1)))))))))
theorem stc_eq {s0 s1 : Sl Γ} {row : P} {x : Int} : STC [s0, s1, .dat (tD row), .dat (.int x)] = some (lastOk row x, [s0, s1, .dat (tD row), .dat (.int x)]) := by
  rcases List.eq_nil_or_concat row with rfl | ⟨ys, y, hy⟩
  · rfl
  · rw [List.concat_eq_append] at hy
    subst hy
    have ne : mNotT (mT (.brw 2)) ([s0, s1, .dat (tD (ys ++ [y])), .dat (.int x)] : Env Γ) = some (false, [s0, s1, .dat (tD (ys ++ [y])), .dat (.int x)]) := by
      refine not_eq (b := true) ?_
      unfold mT
      simp [evA, got, peek, truth, tD, Sl.view]
    have ix : m2 pIx (.brw 2) (.ex (m1 pNeg (.ex (mC (.int 1))))) ([s0, s1, .dat (tD (ys ++ [y])), .dat (.int x)] : Env Γ) = some (.dat (.int y), [s0, s1, .dat (tD (ys ++ [y])), .dat (.int x)]) := by
      refine m2_bx (s := .dat (tD (ys ++ [y]))) (t := .dat (.int (-1))) rfl (by exact nofun) rfl ?_
      have v : (Sl.dat (Γ := Γ) (tD (ys ++ [y]))).view = some (.tup ((ys ++ [y]).map .int)) := rfl
      unfold pIx
      simp only [v]
      show (atI ((ys ++ [y]).map G.D.int) (-1)).map Sl.dat = _
      rw [at_last]
      rfl
    have gt : m2 pGt (.brw 3) (.ex (m2 pIx (.brw 2) (.ex (m1 pNeg (.ex (mC (.int 1))))))) ([s0, s1, .dat (tD (ys ++ [y])), .dat (.int x)] : Env Γ) = some (.dat (.bl (decide (y < x))), [s0, s1, .dat (tD (ys ++ [y])), .dat (.int x)]) := m2_bx (s := .dat (.int x)) rfl (by exact nofun) ix rfl
    have e : lastOk (ys ++ [y]) x = decide (y < x) := by unfold lastOk; rw [List.getLast?_append]; rfl
    rw [e]
    exact or_f2 ne (toT_eq gt)
theorem sb_in {s0 s1 : Sl Γ} {row : P} (hr : row.length < 1000) : ∀ xs : P, inLd [3] (gNm 3) STC (m2 pAdd (.brw 2) (.ex (mN pTupN [.ex (mVar 3)]))) (xs.map .int) [s0, s1, .dat (tD row), .none] = some (((xs.filter (lastOk row)).map fun x => tD (row ++ [x])), [s0, s1, .dat (tD row), .none])
  | [] => rfl
  | x :: xs => by
    have ih := sb_in (s0 := s0) (s1 := s1) hr xs
    have g0 : gNm 3 (G.D.int x) ([s0, s1, .dat (tD row), .none] : Env Γ) = some [s0, s1, .dat (tD row), .dat (.int x)] := by simp [gNm]
    have w : wipeE [3] ([s0, s1, .dat (tD row), .dat (.int x)] : Env Γ) = some [s0, s1, .dat (tD row), .none] := rfl
    have sn := snoc_at (Γ := Γ) (env := [s0, s1, .dat (tD row), .dat (.int x)]) (i := 2) (j := 3) (p := row) (x := x) rfl rfl hr
    have tc := stc_eq (Γ := Γ) (s0 := s0) (s1 := s1) (row := row) (x := x)
    rw [List.map_cons]
    unfold inLd
    rw [g0]
    simp only
    rw [tc]
    cases e : lastOk row x with
    | true =>
      simp only [sn, w, ih, Option.map_some]
      rw [List.filter_cons_of_pos e]
      rfl
    | false =>
      simp only [w, ih]
      rw [List.filter_cons_of_neg (by rw [e]; simp)]
theorem sb_out {s1 : Sl Γ} {I : P} : ∀ rows : List P, (∀ r ∈ rows, r.length < 1000) → outLd [2, 3] (gNm 2) (iSeq (mVar 0)) [3] (gNm 3) STC (m2 pAdd (.brw 2) (.ex (mN pTupN [.ex (mVar 3)]))) (rows.map tD) [.dat (tD I), s1, .none, .none] = some ((nxt I rows).map tD, [.dat (tD I), s1, .none, .none])
  | [], _ => rfl
  | row :: rows, h => by
    have ih := sb_out (s1 := s1) (I := I) rows fun r hr => h r (List.mem_cons_of_mem _ hr)
    have g0 : gNm 2 (tD row) ([.dat (tD I), s1, .none, .none] : Env Γ) = some [.dat (tD I), s1, .dat (tD row), .none] := by simp [gNm]
    have it : iSeq (mVar 0) ([.dat (tD I), s1, .dat (tD row), .none] : Env Γ) = some (I.map .int, [.dat (tD I), s1, .dat (tD row), .none]) := rfl
    have w1 : wipeE [3] ([.dat (tD I), s1, .dat (tD row), .none] : Env Γ) = some [.dat (tD I), s1, .dat (tD row), .none] := rfl
    have w2 : wipeE [2, 3] ([.dat (tD I), s1, .dat (tD row), .none] : Env Γ) = some [.dat (tD I), s1, .none, .none] := rfl
    have ii := sb_in (Γ := Γ) (s0 := .dat (tD I)) (s1 := s1) (h row List.mem_cons_self) I
    rw [List.map_cons]
    unfold outLd
    rw [g0]
    simp only [it, w1, ii, w2, ih, Option.map_some]
    unfold nxt
    rw [List.flatMap_cons, List.map_append, List.map_map]
    rfl
abbrev SNX : Es Γ := mSet 1 (mLc2d (iSeq (mVar 1)) [2, 3] (gNm 2) (iSeq (mVar 0)) [3] (gNm 3) STC (m2 pAdd (.brw 2) (.ex (mN pTupN [.ex (mVar 3)]))))
theorem snx_eq {I : P} {rows : List P} {v2 : Sl Γ} (h2 : nonOwn v2 = true) (hr : ∀ r ∈ rows, r.length < 1000) (hl : rows.length ≤ 1000) (hn : (nxt I rows).length ≤ 1000) : SNX [.dat (tD I), .dat (fD rows), v2, .none] = some (.nx, [.dat (tD I), .lst ((nxt I rows).map tD), v2, .none]) := by
  have w : wipeE [2, 3] ([.dat (tD I), .dat (fD rows), v2, .none] : Env Γ) = some [.dat (tD I), .dat (fD rows), .none, .none] := by
    unfold wipeE
    simp [h2, wipeL]
    rfl
  have o := sb_out (Γ := Γ) (s1 := .dat (fD rows)) (I := I) rows hr
  have it : iSeq (mVar 1) ([.dat (tD I), .dat (fD rows), v2, .none] : Env Γ) = some (rows.map tD, [.dat (tD I), .dat (fD rows), v2, .none]) := rfl
  have l : mLc2d (iSeq (mVar 1)) [2, 3] (gNm 2) (iSeq (mVar 0)) [3] (gNm 3) STC (m2 pAdd (.brw 2) (.ex (mN pTupN [.ex (mVar 3)]))) ([.dat (tD I), .dat (fD rows), v2, .none] : Env Γ) = some (.lst ((nxt I rows).map tD), backE [.dat (tD I), .dat (fD rows), v2, .none] [.dat (tD I), .dat (fD rows), .none, .none] [2, 3]) := by
    have h : ((nxt I rows).map tD).length ≤ sizeLine := by rw [List.length_map]; exact big hn
    unfold mLc2d
    rw [it]
    simp only [w, o, h, if_true]
  exact (set_eq l (by show 1 < 4; decide)).trans rfl
def YLs (cc : Env Γ) : GYl Γ := fun d _ e c' kd => ∃ acc, c' = cc ++ [.lst acc] ∧ acc.length < sizeLine ∧ kd e (cc ++ [.lst (acc ++ [d])])
abbrev SFB : Qg Γ := gSeq (gYield (xE (mVar 2))) (gNx)
theorem for_run {cc : Env Γ} {I : P} {c1 : Sl Γ} {rows : List P} {K : Fl Γ → Nat → Env Γ → Env Γ → Prop} {KX : Er → Env Γ → Env Γ → Prop} {r : Nat} : ∀ (m : Nat) (v2 : Sl Γ) (acc : List G.D), m ≤ rows.length → nonOwn v2 = true → acc.length + m ≤ 1000 →
    (∀ v2', nonOwn v2' = true → K .nx r [.dat (tD I), c1, v2', .none] (cc ++ [.lst (acc ++ (rows.drop (rows.length - m)).map tD)])) → gForB (nxD (rows.map tD)) rows.length (gNm 2) SFB K KX (YLs cc) m (m + r) [.dat (tD I), c1, v2, .none] (cc ++ [.lst acc])
  | 0, v2, acc, _, h2, _, k => by
    refine ⟨?_, ?_⟩
    · show some (rows.map tD)[rows.length]? = some none
      rw [List.getElem?_eq_none_iff.mpr (by rw [List.length_map]; exact Nat.le_refl _)]
    · have := k v2 h2
      rw [Nat.sub_zero, List.drop_length, List.map_nil, List.append_nil] at this
      rw [Nat.zero_add]
      exact this
  | m + 1, v2, acc, hm, h2, hl, k => by
    have lt : rows.length - (m + 1) < rows.length := by omega
    have ed : (rows.map tD)[rows.length - (m + 1)]? = some (tD rows[rows.length - (m + 1)]) := by rw [List.getElem?_map, List.getElem?_eq_getElem lt]; rfl
    refine ⟨tD rows[rows.length - (m + 1)], by show some _ = _; rw [ed], [.dat (tD I), c1, .dat (tD rows[rows.length - (m + 1)]), .none], by simp [gNm], ?_⟩
    refine ⟨m + r, by omega, .dat (tD rows[rows.length - (m + 1)]), [.dat (tD I), c1, .dat (tD rows[rows.length - (m + 1)]), .none], rfl, tD rows[rows.length - (m + 1)], rfl, acc, rfl, Nat.lt_of_lt_of_le (by omega : acc.length < 1001) (by decide), ?_⟩
    refine for_run m _ (acc ++ [tD rows[rows.length - (m + 1)]]) (by omega) rfl (by rw [List.length_append, List.length_singleton]; omega) fun v2' h => ?_
    have := k v2' h
    rw [List.drop_eq_getElem_cons lt, List.map_cons, show rows.length - (m + 1) + 1 = rows.length - m by omega] at this
    rw [List.append_assoc]
    exact this
end
end K

set_option maxHeartbeats 400000
namespace K
open PySem L2 G Fam
section
variable {Γ : Gam}
theorem gs_pl {f : Es Γ} {q : Qg Γ} {e e1 : Env Γ} {n : Nat} {c : Env Γ} {K : Fl Γ → Nat → Env Γ → Env Γ → Prop} {KX : Er → Env Γ → Env Γ → Prop} {yl : GYl Γ} (h : f e = some (.nx, e1)) (k : q e1 n c K KX yl) : gSeq (gPl (xS f)) q e n c K KX yl := ⟨.nx, e1, h, (fun x z => by cases z), k⟩
theorem lev_nd {I : P} (hI : Up I) (h6 : I.length ≤ 6) (k : Nat) : (lev I k).length ≤ 64 ∧ ∀ r ∈ lev I k, r.length ≤ 6 := by
  obtain ⟨h1, h2⟩ := lev_spec hI k
  have n : (lev I k).Nodup := List.nodup_iff_pairwise_ne.mpr (h1.imp fun h => h.2)
  exact ⟨fam_len hI h6 n fun t ht => ((h2 t).mp ht).1, fun r hr => part_len h6 ((h2 r).mp hr).1⟩
def restL (I : P) (k : Nat) : List P := ((List.range (I.length + 1)).drop k).flatMap (lev I)
theorem rest_succ {I : P} {k : Nat} (h : k ≤ I.length) : restL I k = lev I k ++ restL I (k + 1) := by
  unfold restL
  rw [List.drop_eq_getElem_cons (by rw [List.length_range]; omega), List.flatMap_cons, List.getElem_range]
abbrev SWB : Qg Γ := gSeq (gFor (xI (iSeq (mVar 1))) (gNm 2) SFB) (gSeq (gPl (xS SNX)) (gNx))
theorem while_run {cc : Env Γ} {I : P} (hI : Up I) (h6 : I.length ≤ 6) {K : Fl Γ → Nat → Env Γ → Env Γ → Prop} {KX : Er → Env Γ → Env Γ → Prop} (kk : ∀ e, K .nx 0 e (cc ++ [.lst ((levs I).map tD)])) : ∀ (m k : Nat) (v2 : Sl Γ) (acc : List P), k + m = I.length + 1 → nonOwn v2 = true → acc ++ restL I k = levs I → acc.length ≤ 500 →
    gWhB (xTe (mT (.brw 1))) SWB K KX (YLs cc) (m + 1) (restL I k).length [.dat (tD I), .lst ((lev I k).map tD), v2, .none] (cc ++ [.lst (acc.map tD)])
  | 0, k, v2, acc, hk, h2, ha, _ => by
    have ek : k = I.length + 1 := by omega
    subst ek
    rw [lev_end hI]
    have r0 : restL I (I.length + 1) = [] := by
      unfold restL
      rw [List.drop_of_length_le (by rw [List.length_range]; exact Nat.le_refl _)]
      rfl
    rw [r0, List.append_nil] at ha
    rw [r0, ha]
    exact ⟨false, _, rfl, kk _⟩
  | m + 1, k, v2, acc, hk, h2, ha, hl => by
    have kl : k ≤ I.length := by omega
    obtain ⟨n1, n2⟩ := lev_nd hI h6 k
    obtain ⟨n3, n4⟩ := lev_nd hI h6 (k + 1)
    have ne := lev_ne hI kl
    have tr : mT (.brw 1) ([.dat (tD I), .lst ((lev I k).map tD), v2, .none] : Env Γ) = some (true, [.dat (tD I), .lst ((lev I k).map tD), v2, .none]) := by
      cases e : lev I k with
      | nil => exact absurd e ne
      | cons a l =>
        unfold mT
        simp [evA, got, peek, truth, Sl.view]
    refine ⟨true, _, tr, ?_⟩
    rw [rest_succ kl, List.length_append]
    show SWB [.dat (tD I), .lst ((lev I k).map tD), v2, .none] _ _ _ _ _
    refine ⟨(lev I k).map tD, [.dat (tD I), .dat (fD (lev I k)), v2, .none], rfl, ?_⟩
    rw [List.length_map]
    have al : acc.length + (lev I k).length ≤ 1000 := by omega
    refine for_run (rows := lev I k) (r := (restL I (k + 1)).length) (lev I k).length v2 (acc.map tD) (Nat.le_refl _) h2 (by rw [List.length_map]; omega) fun v2' h2' => ?_
    rw [Nat.sub_self, List.drop_zero, ← List.map_append]
    have sx := snx_eq (Γ := Γ) (I := I) (rows := lev I k) h2' (fun r hr => by have := n2 r hr; omega) (by omega) (by show (lev I (k + 1)).length ≤ 1000; omega)
    refine gs_pl sx ?_
    have acl : (acc ++ lev I k).length ≤ 500 := by
      have : (acc ++ lev I k).length ≤ (levs I).length := by
        rw [← ha, rest_succ kl, ← List.append_assoc, List.length_append (as := acc ++ lev I k)]
        omega
      have l2 : (levs I).length ≤ 64 := by
        rw [levs_parts hI]
        obtain ⟨p1, p2⟩ := parts_spec hI
        exact few hI h6 p1 fun t ht => (p2 t).mp ht
      omega
    exact while_run hI h6 kk m (k + 1) v2' (acc ++ lev I k) (by omega) h2' (by rw [List.append_assoc, ← rest_succ kl]; exact ha) acl
theorem qv_subsets {I : P} (hI : Up I) (h6 : I.length ≤ 6) {env : Env Γ} {i : Nat} (hi : env[i]? = some (.dat (tD I))) : Qv (Γ := Γ) (xLcG x_subsets [.brw i]) env (.lst ((levs I).map tD)) env := fun K KX k => by
  have pk : peeks [Ag.brw i] env = some [.dat (tD I)] := by simp [peeks, peek, hi, got]
  have av : Av (Γ := Γ) [.brw i] env [.brw i] env := av_brw hi (by exact nofun) av_nil
  unfold xLcG xArgs
  refine av _ KX ?_
  refine ⟨[.dat (tD I)], pk, rfl, (restL I 0).length, rfl, ?_⟩
  show b_subsets _ _ _ _ _ (YLs env)
  unfold b_subsets
  have q0 : mSet 1 (mN pLstN [.ex (mN pTupN [])]) ([.dat (tD I), .none, .none, .none] : Env Γ) = some (.nx, [.dat (tD I), .lst [tD []], .none, .none]) := (set_eq one_empty (by show 1 < 4; decide)).trans rfl
  refine gs_pl q0 ?_
  refine ⟨I.length + 2, ?_⟩
  refine while_run (cc := env) hI h6 ?kk (I.length + 1) 0 .none [] (by omega) rfl rfl (Nat.zero_le _)
  case kk =>
    intro e
    show (Fl.nx : Fl Γ) = .nx ∧ ∃ acc, env ++ [.lst ((levs I).map tD)] = env ++ [.lst acc] ∧ K (.lst acc) env
    exact ⟨rfl, _, rfl, k⟩
end
end K

set_option maxHeartbeats 400000
namespace K
open PySem L2 G Fam
def bump (found : P) : Nat → Int → Int
  | 0, x => x
  | m + 1, x => bump found m (if x ∈ found then x + 1 else x)
theorem bump_out {found : P} : ∀ (m : Nat) {x : Int}, x ∉ found → bump found m x = x
  | 0, _, _ => rfl
  | m + 1, x, h => by
    unfold bump
    rw [if_neg h]
    exact bump_out m h
theorem bump_le {found : P} : ∀ (m : Nat) (x : Int), x ≤ bump found m x ∧ bump found m x ≤ x + m
  | 0, x => ⟨Int.le_refl _, by unfold bump; omega⟩
  | m + 1, x => by
    unfold bump
    have h1 := bump_le (found := found) m x
    have h2 := bump_le (found := found) m (x + 1)
    split <;> omega
theorem bump_in {found : P} : ∀ (m : Nat) {x : Int}, bump found m x ∈ found → ∀ i : Nat, i ≤ m → x + i ∈ found
  | 0, x, h, i, hi => by
    have : i = 0 := by omega
    subst this
    have e : x + ((0 : Nat) : Int) = x := by omega
    rw [e]
    exact h
  | m + 1, x, h, i, hi => by
    by_cases hx : x ∈ found
    · unfold bump at h
      rw [if_pos hx] at h
      cases i with
      | zero =>
        have e : x + ((0 : Nat) : Int) = x := by omega
        rw [e]
        exact hx
      | succ i =>
        have := bump_in m h i (by omega)
        have e : x + ((i + 1 : Nat) : Int) = x + 1 + i := by omega
        rw [e]
        exact this
    · rw [bump_out _ hx] at h
      exact absurd h hx
theorem bump_new {found : P} {m : Nat} (h : found.length ≤ m) (x : Int) : bump found m x ∉ found := fun z => by
  have a := bump_in m z
  have l := nd_len (p := (List.range (m + 1)).map fun (i : Nat) => x + (i : Int)) (q := found) (List.nodup_iff_pairwise_ne.mpr (by
    rw [List.pairwise_map]
    exact List.pairwise_lt_range.imp fun h e => by omega)) fun y hy => by
      obtain ⟨i, hi, rfl⟩ := List.mem_map.mp hy
      exact a i (by have := List.mem_range.mp hi; omega)
  rw [List.length_map, List.length_range] at l
  omega
section
variable {Γ : Gam}
abbrev BUB : Es Γ := mIfS (toT (m2 pIn (.brw 4) (.brw 2))) (mSet 4 (m2 pAdd (.brw 4) (.ex (mC (.int 1))))) (mNx)
theorem bu_loop {s0 : Sl Γ} {n : Int} {found : P} {v3 : Sl Γ} : ∀ (ds : List G.D) (x : Int) (v5 : Sl Γ), ∃ v5', forL (gNm 5) BUB ds [s0, .dat (.int n), .lst (found.map .int), v3, .dat (.int x), v5] = some (.nx, [s0, .dat (.int n), .lst (found.map .int), v3, .dat (.int (bump found ds.length x)), v5'])
  | [], x, v5 => ⟨v5, rfl⟩
  | d :: ds, x, v5 => by
    have t : toT (m2 pIn (.brw 4) (.brw 2)) ([s0, .dat (.int n), .lst (found.map .int), v3, .dat (.int x), .dat d] : Env Γ) = some (decide (x ∈ found), [s0, .dat (.int n), .lst (found.map .int), v3, .dat (.int x), .dat d]) := toT_eq (m2_bb (s := .dat (.int x)) (t := .lst (found.map .int)) rfl rfl rfl rfl (in_ints (g := id) (s := .lst (found.map .int)) (ns := found) (n := x) rfl))
    have b : BUB ([s0, .dat (.int n), .lst (found.map .int), v3, .dat (.int x), .dat d] : Env Γ) = some (.nx, [s0, .dat (.int n), .lst (found.map .int), v3, .dat (.int (if x ∈ found then x + 1 else x)), .dat d]) := by
      by_cases h : x ∈ found
      · rw [decide_eq_true h] at t
        rw [if_pos h]
        have a : m2 pAdd (.brw 4) (.ex (mC (.int 1))) ([s0, .dat (.int n), .lst (found.map .int), v3, .dat (.int x), .dat d] : Env Γ) = some (.dat (.int (x + 1)), [s0, .dat (.int n), .lst (found.map .int), v3, .dat (.int x), .dat d]) := m2_bx (s := .dat (.int x)) (t := .dat (.int 1)) rfl (by exact nofun) rfl rfl
        exact (ifs_t t).trans ((set_eq a (by show 4 < 6; decide)).trans rfl)
      · rw [decide_eq_false h] at t
        rw [if_neg h]
        exact (ifs_f t).trans rfl
    obtain ⟨v5', q⟩ := bu_loop (s0 := s0) (n := n) (found := found) (v3 := v3) ds (if x ∈ found then x + 1 else x) (.dat d)
    exact ⟨v5', (forL_nx1 rfl b).trans q⟩
theorem pick3 {env e1 : Env Γ} {a b c : Int} {fa fb fc ft : Ev Γ} {r : Int} (ha : fa env = some (.dat (.int a), env)) (hb : fb env = some (.dat (.int b), env)) (hc : fc env = some (.dat (.int c), env)) (ht : ft env = some (.dat (.int r), e1)) (r0 : 0 ≤ r) (r3 : r < 3) : ∃ v, (v = a ∨ v = b ∨ v = c) ∧ m2 pIx (.ex (mN pLstN [.ex fa, .ex fb, .ex fc])) (.ex ft) env = some (.dat (.int v), e1) := by
  have ls := lst_N (Γ := Γ) (as := [.ex fa, .ex fb, .ex fc]) (env := env) (e1 := env) (ds := [.int a, .int b, .int c]) (xs := [.val (.dat (.int a)), .val (.dat (.int b)), .val (.dat (.int c))]) (by simp only [evAs, evA, ha, hb, hc, Option.map_some]) rfl (by show 3 ≤ sizeLine; decide)
  rcases (by omega : r = 0 ∨ r = 1 ∨ r = 2) with rfl | rfl | rfl
  · exact ⟨a, .inl rfl, m2_ex ls ht rfl⟩
  · exact ⟨b, .inr (.inl rfl), m2_ex ls ht rfl⟩
  · exact ⟨c, .inr (.inr rfl), m2_ex ls ht rfl⟩
abbrev ITB : Es Γ := mSeq (mSet 4 (m2 pSub (.ex (mCall 2 f_law_take [.brw 0, .ex (m2 pIx (.ex (mN pLstN [.ex (mC (.int 5)), .ex (mC (.int 12)), .ex (m2 pPow (.ex (mC (.int 10))) (.ex (mC (.int 30))))])) (.ex (mCall 2 f_law_take [.brw 0, .ex (mC (.int 3))])))])) (.ex (m2 pIx (.ex (mN pLstN [.ex (mC (.int 0)), .ex (mC (.int 3)), .ex (m2 pPow (.ex (mC (.int 10))) (.ex (mC (.int 29))))])) (.ex (mCall 2 f_law_take [.brw 0, .ex (mC (.int 3))]))))))
    (mSeq (mFor (iRng (mVar 1)) (gNm 5) BUB)
    (mDrop (mMut 2 uAppend [.ex (mVar 4)])))
theorem pow30 {env : Env Γ} : m2 pPow (.ex (mC (.int 10))) (.ex (mC (.int 30))) env = some (.dat (.int 1000000000000000000000000000000), env) := by
  refine m2_ex (s := .dat (.int 10)) (t := .dat (.int 30)) rfl rfl ?_
  simp [mFun, mSeq, mIfS, toT, m1, m2, mN, evA, evAs, got, peek, peeks, pEq, pNe, pEqG, pLt, pLe, pGt, pGe, pOrd, pIx, Sl.view, mC, mVar, mRet, mNx, mSet, mDrop, mNotT, mNotE, mNotV, mAndT, mOrT, mAndV, mOrV, mIf, mT, truth, db, di, atI, ixN, okD_int, okD_bl, okD_non, eqD_int, eqD_str, eqD_bl, nonOwn, backE, List.replicate, mRetMv, mQ, evQ, getP, Fd.sl, pTupN, allDat, pN1, pN2, pI, cMod, cMul, cDiv, cPow, pMod, pMul, pDiv, pPow, pAdd, pSub, p0, pInt, pLen, mFrz, cPow]
theorem pow29 {env : Env Γ} : m2 pPow (.ex (mC (.int 10))) (.ex (mC (.int 29))) env = some (.dat (.int 100000000000000000000000000000), env) := by
  refine m2_ex (s := .dat (.int 10)) (t := .dat (.int 29)) rfl rfl ?_
  simp [mFun, mSeq, mIfS, toT, m1, m2, mN, evA, evAs, got, peek, peeks, pEq, pNe, pEqG, pLt, pLe, pGt, pGe, pOrd, pIx, Sl.view, mC, mVar, mRet, mNx, mSet, mDrop, mNotT, mNotE, mNotV, mAndT, mOrT, mAndV, mOrV, mIf, mT, truth, db, di, atI, ixN, okD_int, okD_bl, okD_non, eqD_int, eqD_str, eqD_bl, nonOwn, backE, List.replicate, mRetMv, mQ, evQ, getP, Fd.sl, pTupN, allDat, pN1, pN2, pI, cMod, cMul, cDiv, cPow, pMod, pMul, pDiv, pPow, pAdd, pSub, p0, pInt, pLen, mFrz, cPow]
/-- numbers drawn so far -/
structure Its (found : P) : Prop where
  nd : found.Nodup
  no : ∀ n ∈ found, isNo n
theorem it_turn {N : Nat} {s v3 v4 v5 : Sl Γ} {n : Nat} {found : P} (hs : isBag N s) (hN : N + 10 < 1000000) (n6 : n ≤ 6) (hl : found.length ≤ n) (I : Its found) : ∃ s' v4' v5' x, isBag (N + 3) s' ∧ Its (found ++ [x]) ∧ ITB [s, .dat (.int (n : Nat)), .lst (found.map .int), v3, v4, v5] = some (.nx, [s', .dat (.int (n : Nat)), .lst ((found ++ [x]).map .int), v3, v4', v5']) := by
  obtain ⟨r1, t1, r10, r11, b1, k1⟩ := take_c (Γ := Γ) (env := [s, .dat (.int (n : Nat)), .lst (found.map .int), v3, v4, v5]) (b := 0) rfl hs (by omega) 3 (by decide) (by decide)
  obtain ⟨m, hm, p1⟩ := pick3 (Γ := Γ) (env := [s, .dat (.int (n : Nat)), .lst (found.map .int), v3, v4, v5]) (fa := mC (.int 5)) (fb := mC (.int 12)) (a := 5) (b := 12) rfl rfl pow30 k1 r10 r11
  have m0 : 0 < m ∧ m ≤ 1000000000000000000000000000000 := by omega
  have mb : m < 2 ^ 200 := Int.lt_of_le_of_lt m0.2 (by decide)
  obtain ⟨i1, j1, z1, e1, j0, j1', z0, z1'⟩ := hs
  obtain ⟨r2, t2, r20, r21, b2, k2⟩ : ∃ r2 t2, 0 ≤ r2 ∧ r2 < m ∧ isBag (N + 2) t2 ∧ mCall 2 f_law_take [.brw 0, .ex (m2 pIx (.ex (mN pLstN [.ex (mC (.int 5)), .ex (mC (.int 12)), .ex (m2 pPow (.ex (mC (.int 10))) (.ex (mC (.int 30))))])) (.ex (mCall 2 f_law_take [.brw 0, .ex (mC (.int 3))])))] [s, .dat (.int (n : Nat)), .lst (found.map .int), v3, v4, v5] = some (.dat (.int r2), [t2, .dat (.int (n : Nat)), .lst (found.map .int), v3, v4, v5]) := by
    obtain ⟨i, j, k, et, a1, a2, a3, a4⟩ := b1
    obtain ⟨r2, t2, q0, q1, q2, q3⟩ := eval_take (Γ := Γ) (N := N + 1) (by omega) i j k m a1 a2 a3 a4 m0.1 mb
    refine ⟨r2, t2, q0, q1, q2, ?_⟩
    have hb : isBag (Γ := Γ) (N + 1) t1 := ⟨i, j, k, et, a1, a2, a3, a4⟩
    rw [← et] at q3
    have hb0 : isBag (Γ := Γ) N s := ⟨i1, j1, z1, e1, j0, j1', z0, z1'⟩
    exact (call_b2x (b := 0) rfl (bag_nn hb0) p1 rfl (bag_non hb) q3).trans rfl
  obtain ⟨r3, t3, r30, r31, b3, k3⟩ := take_c (Γ := Γ) (env := [t2, .dat (.int (n : Nat)), .lst (found.map .int), v3, v4, v5]) (b := 0) rfl b2 (by omega) 3 (by decide) (by decide)
  obtain ⟨w, hw, p2⟩ := pick3 (Γ := Γ) (env := [t2, .dat (.int (n : Nat)), .lst (found.map .int), v3, v4, v5]) (fa := mC (.int 0)) (fb := mC (.int 3)) (a := 0) (b := 3) rfl rfl pow29 k3 r30 r31
  have sb := m2_ex (p := pSub) k2 p2 (u := .dat (.int (r2 - w))) rfl
  have q1 := (set_eq (i := 4) sb (by show 4 < 6; decide)).trans (show _ = some (Fl.nx, [t3, .dat (.int (n : Nat)), .lst (found.map .int), v3, .dat (.int (r2 - w)), v5]) from rfl)
  have rg := rng_eq (f := mVar 1) (env := [t3, .dat (.int (n : Nat)), .lst (found.map .int), v3, .dat (.int (r2 - w)), v5]) (n := (n : Nat)) rfl (by omega) (by omega)
  obtain ⟨v5', lp⟩ := bu_loop (Γ := Γ) (s0 := t3) (n := (n : Nat)) (found := found) (v3 := v3) ((List.range (n : Int).toNat).map fun (k : Nat) => G.D.int (k : Int)) (r2 - w) v5
  have q2 := for_eq rg lp
  rw [List.length_map, List.length_range, Int.toNat_natCast] at q2
  have nb := bump_new hl (r2 - w)
  obtain ⟨u1, u2⟩ := bump_le (found := found) n (r2 - w)
  generalize bump found n (r2 - w) = x at q2 nb u1 u2
  have q3 := app_eq (Γ := Γ) (env := [t3, .dat (.int (n : Nat)), .lst (found.map .int), v3, .dat (.int x), v5']) (i := 2) (j := 4) (ds := found.map .int) (d := .int x) rfl rfl (by rw [List.length_map]; omega)
  refine ⟨t3, .dat (.int x), v5', x, b3, ⟨List.nodup_append.mpr ⟨I.nd, by simp, fun a ha b hb e => nb (by rw [List.mem_singleton.mp hb] at e; rw [← e]; exact ha)⟩, fun y hy => ?_⟩, (seq_nx q1).trans ((seq_nx q2).trans (q3.trans ?_))⟩
  · rcases List.mem_append.mp hy with z | z
    · exact I.no y z
    · rw [List.mem_singleton.mp z]
      unfold isNo
      omega
  · rw [List.map_append]
    rfl
theorem it_loop {n : Nat} (n6 : n ≤ 6) : ∀ (ds : List G.D) {N : Nat} {s v3 v4 v5 : Sl Γ} {found : P}, isBag N s → N + 10 * ds.length + 10 < 1000000 → found.length + ds.length ≤ n → Its found → ∃ s' v3' v4' v5' found', isBag (N + 3 * ds.length) s' ∧ Its found' ∧ found'.length ≤ n ∧ forL (gNm 3) ITB ds [s, .dat (.int (n : Nat)), .lst (found.map .int), v3, v4, v5] = some (.nx, [s', .dat (.int (n : Nat)), .lst (found'.map .int), v3', v4', v5'])
  | [], N, s, v3, v4, v5, found, hs, hN, hl, I => ⟨s, v3, v4, v5, found, hs, I, by rw [List.length_nil] at hl; omega, rfl⟩
  | d :: ds, N, s, v3, v4, v5, found, hs, hN, hl, I => by
    rw [List.length_cons] at hN hl
    obtain ⟨s1, v4', v5', x, b1, I1, q1⟩ := it_turn (Γ := Γ) (v3 := .dat d) (v4 := v4) (v5 := v5) hs (by omega) n6 (by omega) I
    obtain ⟨s2, w3, w4, w5, f2, b2, I2, l2, q2⟩ := it_loop n6 ds (v3 := .dat d) (v4 := v4') (v5 := v5') b1 (by omega) (by rw [List.length_append, List.length_singleton]; omega) I1
    exact ⟨s2, w3, w4, w5, f2, b2.mono (by rw [List.length_cons]; omega), I2, l2, (forL_nx1 rfl q1).trans q2⟩
theorem eval_items {N : Nat} {s : Sl Γ} {n : Nat} (n6 : n ≤ 6) (hs : isBag N s) (hN : N + 100 < 1000000) : ∃ s' I, isBag (N + 20) s' ∧ Up I ∧ I.length ≤ 6 ∧ (∀ n ∈ I, isNo n) ∧ f_law_items (Γ := Γ) [s, .dat (.int (n : Nat))] = some (.lst (I.map .int), [s', .dat (.int (n : Nat))]) := by
  have rg := rng_eq (f := mVar 1) (env := [s, .dat (.int (n : Nat)), .lst [], .none, .none, .none]) (n := (n : Nat)) rfl (by omega) (by omega)
  have dl : ((List.range (n : Int).toNat).map fun (k : Nat) => G.D.int (k : Int)).length = n := by rw [List.length_map, List.length_range, Int.toNat_natCast]
  obtain ⟨s', v3, v4, v5, found, b, I, l, lp⟩ := it_loop (Γ := Γ) n6 ((List.range (n : Int).toNat).map fun (k : Nat) => G.D.int (k : Int)) (v3 := .none) (v4 := .none) (v5 := .none) (found := []) hs (by rw [dl]; omega) (by rw [dl, List.length_nil]; omega) ⟨List.nodup_nil, fun n h => by cases h⟩
  rw [dl] at b
  have q := for_eq rg lp
  have q0 : mSet 2 (mN pLstN []) ([s, .dat (.int (n : Nat)), .none, .none, .none, .none] : Env Γ) = some (.nx, [s, .dat (.int (n : Nat)), .lst [], .none, .none, .none]) := (set_eq lst_nil (by show 2 < 6; decide)).trans rfl
  have so : mN (pN1 pSorted) [.brw 2] ([s', .dat (.int (n : Nat)), .lst (found.map .int), v3, v4, v5] : Env Γ) = some (.lst ((srt found).map .int), [s', .dat (.int (n : Nat)), .lst (found.map .int), v3, v4, v5]) := by
    simp only [mN, evAs, evA, List.getElem?_cons_succ, List.getElem?_cons_zero, got, Option.map_some, peeks, peek, pN1, pSorted, Sl.view, allInt_map]
    rfl
  have e6 : (srt found).length = found.length := (sortBy_perm ltI _).length_eq
  have sl : (srt found).length ≤ 6 := by omega
  refine ⟨s', srt found, b.mono (by omega), srt_up I.nd, sl, fun n hn => I.no n (srt_mem.mp hn), ?_⟩
  exact fun_rt (args := [s, .dat (.int (n : Nat))]) (np := 2) (loc := 4) (A := [2, 3, 4, 5]) (e' := [s', .dat (.int (n : Nat)), .lst (found.map .int), v3, v4, v5]) rfl rfl ((seq_nx q0).trans ((seq_nx q).trans (ret_eq so)))
end
end K

set_option maxHeartbeats 400000
namespace K
open PySem L2 G Fam
section
variable {Γ : Gam}
abbrev FE (s0 s1 s2 s3 s4 s5 s6 s7 : Sl Γ) : Env Γ := [s0, s1, s2, s3, s4, s5, s6, s7]
theorem take_len {N : Nat} {env : Env Γ} {j : Nat} {s t : Sl Γ} {ds : List G.D} (h0 : env[0]? = some s) (hs : isBag N s) (hN : N < 1000000) (hj : env[j]? = some t) (ht : isL t ds) (l0 : 0 < ds.length) (l1 : ds.length ≤ 1000) : ∃ (k : Nat) (s' : Sl Γ), k < ds.length ∧ isBag (N + 1) s' ∧ mCall 2 f_law_take [.brw 0, .ex (mN (pN1 pLen) [.brw j])] env = some (.dat (.int (k : Nat)), env.set 0 s') := by
  obtain ⟨r, t', r0, r1, h, e⟩ := call_take (Γ := Γ) (b := 0) h0 hs hN (len_at hj ht) (by omega) (Int.lt_of_le_of_lt (by omega : (ds.length : Int) ≤ 1000) (by decide))
  obtain ⟨k, rfl⟩ := Int.eq_ofNat_of_zero_le r0
  exact ⟨k, t', by omega, h, e⟩
abbrev FA1 : Es Γ := mSet 5 (m2 pIx (.brw 2) (.ex (mCall 2 f_law_take [.brw 0, .ex (mN (pN1 pLen) [.brw 2])])))
abbrev FA2 : Es Γ := mIfS (mAndT (toT (m2 pGt (.ex (mCall 2 f_law_take [.brw 0, .ex (mC (.int 4))])) (.ex (mC (.int 0))))) (toT (m2 pEq (.ex (mN (pN1 pLen) [.brw 5])) (.ex (mC (.int 0)))))) (mSet 5 (m2 pIx (.brw 2) (.ex (m1 pNeg (.ex (mC (.int 1))))))) (mNx)
abbrev FA3 : Es Γ := mIfS (toT (m2 pNotIn (.brw 5) (.brw 3))) (mDrop (mMut 3 uAppend [.ex (mVar 5)])) (mNx)
theorem fa_turn {N : Nat} {s s1 s4 s5 s6 s7 : Sl Γ} {A C : List P} (hs : isBag N s) (hN : N + 10 < 1000000) (hA : A ≠ []) (lA : A.length ≤ 100) (lC : C.length ≤ 100) (hC : C.Nodup ∧ ∀ c ∈ C, c ∈ A) : ∃ (s' : Sl Γ) (p : P) (C' : List P), isBag (N + 2) s' ∧ (C'.Nodup ∧ ∀ c ∈ C', c ∈ A) ∧ C'.length ≤ C.length + 1 ∧
    mSeq FA1 (mSeq FA2 FA3) (FE s s1 (.lst (A.map tD)) (.lst (C.map tD)) s4 s5 s6 s7) = some (.nx, FE s' s1 (.lst (A.map tD)) (.lst (C'.map tD)) s4 (.dat (tD p)) s6 s7) := by
  obtain ⟨k, t1, kl, b1, e1⟩ := take_len (Γ := Γ) (env := FE s s1 (.lst (A.map tD)) (.lst (C.map tD)) s4 s5 s6 s7) (j := 2) rfl hs (by omega) rfl (.inl rfl) (by rw [List.length_map]; exact List.length_pos_iff.mpr hA) (by rw [List.length_map]; omega)
  rw [List.length_map] at kl
  have e1 : mCall 2 f_law_take [.brw 0, .ex (mN (pN1 pLen) [.brw 2])] (FE s s1 (.lst (A.map tD)) (.lst (C.map tD)) s4 s5 s6 s7) = some (.dat (.int (k : Nat)), FE t1 s1 (.lst (A.map tD)) (.lst (C.map tD)) s4 s5 s6 s7) := e1
  have ix := ix_at (Γ := Γ) (ds := A.map tD) (k := k) (d := tD A[k]) (by rw [List.getElem?_map, List.getElem?_eq_getElem kl]; rfl) (s := .lst (A.map tD)) rfl
  have x1 : m2 pIx (.brw 2) (.ex (mCall 2 f_law_take [.brw 0, .ex (mN (pN1 pLen) [.brw 2])])) (FE s s1 (.lst (A.map tD)) (.lst (C.map tD)) s4 s5 s6 s7) = some (.dat (tD A[k]), FE t1 s1 (.lst (A.map tD)) (.lst (C.map tD)) s4 s5 s6 s7) := by
    simp only [m2, evA, got, List.getElem?_cons_succ, List.getElem?_cons_zero, Option.map_some, e1, peek, ix]
  have q1 : FA1 (FE s s1 (.lst (A.map tD)) (.lst (C.map tD)) s4 s5 s6 s7) = some (.nx, FE t1 s1 (.lst (A.map tD)) (.lst (C.map tD)) s4 (.dat (tD A[k])) s6 s7) := (set_eq x1 (by show 5 < 8; decide)).trans rfl
  have mk : A[k] ∈ A := List.getElem_mem kl
  obtain ⟨r, t2, r0, r1, b2, e2⟩ := take_c (Γ := Γ) (env := FE t1 s1 (.lst (A.map tD)) (.lst (C.map tD)) s4 (.dat (tD A[k])) s6 s7) (b := 0) rfl b1 (by omega) 4 (by decide) (by decide)
  have e2 : mCall 2 f_law_take [.brw 0, .ex (mC (.int 4))] (FE t1 s1 (.lst (A.map tD)) (.lst (C.map tD)) s4 (.dat (tD A[k])) s6 s7) = some (.dat (.int r), FE t2 s1 (.lst (A.map tD)) (.lst (C.map tD)) s4 (.dat (tD A[k])) s6 s7) := e2
  have g1 := toT_eq (m2_ex (p := pGt) e2 (g := mC (.int 0)) (t := .dat (.int 0)) rfl (u := .dat (.bl (decide (0 < r)))) rfl)
  obtain ⟨p, pm, q2⟩ : ∃ p, p ∈ A ∧ FA2 (FE t1 s1 (.lst (A.map tD)) (.lst (C.map tD)) s4 (.dat (tD A[k])) s6 s7) = some (.nx, FE t2 s1 (.lst (A.map tD)) (.lst (C.map tD)) s4 (.dat (tD p)) s6 s7) := by
    have ln : mN (pN1 pLen) [.brw 5] (FE t2 s1 (.lst (A.map tD)) (.lst (C.map tD)) s4 (.dat (tD A[k])) s6 s7) = some (.dat (.int ((A[k]).length : Nat)), FE t2 s1 (.lst (A.map tD)) (.lst (C.map tD)) s4 (.dat (tD A[k])) s6 s7) := by
      simp [mN, evAs, evA, got, peeks, peek, pN1, pLen, Sl.view, di, tD]
    have g2 := toT_eq (m2_ex ln (g := mC (.int 0)) (t := .dat (.int 0)) rfl (eq_ints (Γ := Γ) (g := id) (n := ((A[k]).length : Nat)) (m := 0)))
    have last : ∃ p, p ∈ A ∧ mSet 5 (m2 pIx (.brw 2) (.ex (m1 pNeg (.ex (mC (.int 1)))))) (FE t2 s1 (.lst (A.map tD)) (.lst (C.map tD)) s4 (.dat (tD A[k])) s6 s7) = some (.nx, FE t2 s1 (.lst (A.map tD)) (.lst (C.map tD)) s4 (.dat (tD p)) s6 s7) := by
      rcases List.eq_nil_or_concat A with h | ⟨ys, y, hy⟩
      · exact absurd h hA
      · rw [List.concat_eq_append] at hy
        have al : atI (A.map tD) (-1) = some (tD y) := by
          have l : ((A.map tD).length : Int) = ys.length + 1 := by rw [hy]; simp
          have e : (-1 + ((ys.length : Int) + 1)).toNat = ys.length := by omega
          have e2 : (((ys.length : Int) + 1) + -1).toNat = ys.length := by omega
          unfold atI ixN
          rw [l, if_neg (by decide), if_pos (by omega), Option.bind_some]
          first
            | rw [e]
            | rw [e2]
          rw [hy]
          simp
        refine ⟨y, by rw [hy]; exact List.mem_append_right _ (List.mem_singleton.mpr rfl), ?_⟩
        have px : pIx (Γ := Γ) (.lst (A.map tD)) (.dat (.int (-1))) = some (.dat (tD y)) := by
          have v : (Sl.lst (Γ := Γ) (A.map tD)).view = some (.lst (A.map tD)) := rfl
          unfold pIx
          simp only [v]
          show (atI (A.map tD) (-1)).map Sl.dat = _
          rw [al]
          rfl
        have x := m2_bx (Γ := Γ) (p := pIx) (b := 2) (g := m1 pNeg (.ex (mC (.int 1)))) (env := FE t2 s1 (.lst (A.map tD)) (.lst (C.map tD)) s4 (.dat (tD A[k])) s6 s7) (s := .lst (A.map tD)) (t := .dat (.int (-1))) rfl (by exact nofun) rfl px
        exact (set_eq x (by show 5 < 8; decide)).trans rfl
    cases c1 : decide (0 < r) with
    | false =>
      rw [c1] at g1
      have t : mAndT (toT (m2 pGt (.ex (mCall 2 f_law_take [.brw 0, .ex (mC (.int 4))])) (.ex (mC (.int 0))))) (toT (m2 pEq (.ex (mN (pN1 pLen) [.brw 5])) (.ex (mC (.int 0))))) (FE t1 s1 (.lst (A.map tD)) (.lst (C.map tD)) s4 (.dat (tD A[k])) s6 s7) = some (false, FE t2 s1 (.lst (A.map tD)) (.lst (C.map tD)) s4 (.dat (tD A[k])) s6 s7) := by
        unfold mAndT
        rw [g1]
      exact ⟨A[k], mk, (ifs_f t).trans rfl⟩
    | true =>
      rw [c1] at g1
      have t : mAndT (toT (m2 pGt (.ex (mCall 2 f_law_take [.brw 0, .ex (mC (.int 4))])) (.ex (mC (.int 0))))) (toT (m2 pEq (.ex (mN (pN1 pLen) [.brw 5])) (.ex (mC (.int 0))))) (FE t1 s1 (.lst (A.map tD)) (.lst (C.map tD)) s4 (.dat (tD A[k])) s6 s7) = some (id (decide (((A[k]).length : Int) = 0)), FE t2 s1 (.lst (A.map tD)) (.lst (C.map tD)) s4 (.dat (tD A[k])) s6 s7) := by
        unfold mAndT
        rw [g1]
        exact g2
      cases c2 : id (decide (((A[k]).length : Int) = 0)) with
      | false =>
        rw [c2] at t
        exact ⟨A[k], mk, (ifs_f t).trans rfl⟩
      | true =>
        rw [c2] at t
        obtain ⟨p, pm, x⟩ := last
        exact ⟨p, pm, (ifs_t t).trans x⟩
  have nt := toT_eq (m2_bb (p := pNotIn) (env := FE t2 s1 (.lst (A.map tD)) (.lst (C.map tD)) s4 (.dat (tD p)) s6 s7) (i := 5) (j := 3) (s := .dat (tD p)) (t := .lst (C.map tD)) rfl rfl rfl rfl (nin_fam (Γ := Γ) (g := not) (p := p) (s := .lst (C.map tD)) (F := C) rfl))
  have nt : toT (m2 pNotIn (.brw 5) (.brw 3)) (FE t2 s1 (.lst (A.map tD)) (.lst (C.map tD)) s4 (.dat (tD p)) s6 s7) = some (!decide (p ∈ C), FE t2 s1 (.lst (A.map tD)) (.lst (C.map tD)) s4 (.dat (tD p)) s6 s7) := nt
  by_cases h : p ∈ C
  · rw [decide_eq_true h] at nt
    exact ⟨t2, p, C, b2, hC, by omega, (seq_nx q1).trans ((seq_nx q2).trans ((ifs_f nt).trans rfl))⟩
  · rw [decide_eq_false h] at nt
    have q3 := app_eq (Γ := Γ) (env := FE t2 s1 (.lst (A.map tD)) (.lst (C.map tD)) s4 (.dat (tD p)) s6 s7) (i := 3) (j := 5) (ds := C.map tD) (d := tD p) rfl rfl (by rw [List.length_map]; omega)
    refine ⟨t2, p, C ++ [p], b2, ⟨List.nodup_append.mpr ⟨hC.1, by simp, fun a ha b hb e => h (by rw [List.mem_singleton.mp hb] at e; rw [← e]; exact ha)⟩, fun c hc => ?_⟩, by rw [List.length_append, List.length_singleton]; omega, (seq_nx q1).trans ((seq_nx q2).trans ((ifs_t nt).trans (q3.trans ?_)))⟩
    · rcases List.mem_append.mp hc with z | z
      · exact hC.2 c z
      · rw [List.mem_singleton.mp z]; exact pm
    · rw [List.map_append]
      rfl
theorem fa_loop {s1 s6 s7 : Sl Γ} {A : List P} (hA : A ≠ []) (lA : A.length ≤ 100) : ∀ (ds : List G.D) {N : Nat} {s s4 s5 : Sl Γ} {C : List P}, isBag N s → N + 10 * ds.length + 10 < 1000000 → nonOwn s5 = true → C.length + ds.length ≤ 50 → (C.Nodup ∧ ∀ c ∈ C, c ∈ A) → ∃ (s' s4' s5' : Sl Γ) (C' : List P), isBag (N + 2 * ds.length) s' ∧ nonOwn s5' = true ∧ (C'.Nodup ∧ ∀ c ∈ C', c ∈ A) ∧ C'.length ≤ 50 ∧
    forL (gNm 4) (mSeq FA1 (mSeq FA2 FA3)) ds (FE s s1 (.lst (A.map tD)) (.lst (C.map tD)) s4 s5 s6 s7) = some (.nx, FE s' s1 (.lst (A.map tD)) (.lst (C'.map tD)) s4' s5' s6 s7)
  | [], N, s, s4, s5, C, hs, _, h5, hl, hC => ⟨s, s4, s5, C, hs, h5, hC, by rw [List.length_nil] at hl; omega, rfl⟩
  | d :: ds, N, s, s4, s5, C, hs, hN, h5, hl, hC => by
    rw [List.length_cons] at hN hl
    obtain ⟨t1, p, C1, b1, c1, l1, q1⟩ := fa_turn (Γ := Γ) (s1 := s1) (s4 := .dat d) (s5 := s5) (s6 := s6) (s7 := s7) hs (by omega) hA lA (by omega) hC
    obtain ⟨t2, u4, u5, C2, b2, n5, c2, l2, q2⟩ := fa_loop hA lA ds (s4 := .dat d) b1 (by omega) (s5 := .dat (tD p)) rfl (by omega) c1
    exact ⟨t2, u4, u5, C2, b2.mono (by rw [List.length_cons]; omega), n5, c2, l2, (forL_nx1 rfl q1).trans q2⟩
end
end K

set_option maxHeartbeats 400000
namespace K
open PySem L2 G Fam
section
variable {Γ : Gam}
abbrev FT : Et Γ := toT (m2 pNe (.ex (mLc (iSeq (mVar 3)) [5] (gNm 5) (mT (.ex (mCall 2 f_law_inside [.brw 5, .brw 6]))) (mVar 5))) (.ex (mN pLstN [])))
theorem wipe5 {s0 s1 s2 s3 s4 s5 s6 s7 : Sl Γ} (h : nonOwn s5 = true) : wipeE [5] (FE s0 s1 s2 s3 s4 s5 s6 s7) = some (FE s0 s1 s2 s3 s4 .none s6 s7) := by
  unfold wipeE
  simp only [List.all_cons, List.all_nil, List.getElem?_cons_succ, List.getElem?_cons_zero, h, Bool.and_self, if_true]
  rfl
theorem fl_test {s0 s1 s2 x3 s4 s5 s7 : Sl Γ} {C : List P} {one : P} (h3 : isF x3 C) (h5 : nonOwn s5 = true) (lC : C.length < 1000) (hC : ∀ c ∈ C, c.length ≤ 1000) : FT (FE s0 s1 s2 x3 s4 s5 (.dat (tD one)) s7) = some (!decide ((C.filter fun c => subB c one) = []), FE s0 s1 s2 (.dat (fD C)) s4 s5 (.dat (tD one)) s7) := by
  have c := compL_fil (Γ := Γ) (vs := [5]) (t := gNm 5) (tc := mT (.ex (mCall 2 f_law_inside [.brw 5, .brw 6]))) (f := mVar 5) (env := FE s0 s1 s2 (.dat (fD C)) s4 .none (.dat (tD one)) s7) tD tD (fun c => subB c one) C fun c hc =>
    ⟨FE s0 s1 s2 (.dat (fD C)) s4 (.dat (tD c)) (.dat (tD one)) s7, rfl, mT_ex (call_dd rfl rfl (eval_inside (hC c hc))), fun _ => rfl, rfl⟩
  have l := lc_eq ((h3.seq (env := FE s0 s1 s2 x3 s4 s5 (.dat (tD one)) s7) (i := 3) rfl).trans (show _ = some (C.map tD, FE s0 s1 s2 (.dat (fD C)) s4 s5 (.dat (tD one)) s7) from rfl)) (by rw [List.length_map]; exact big (by omega)) (wipe5 h5) c
  have r := m2_ex (l.trans rfl) lst_nil (ne_nil (ok_fam (C.filter fun c => subB c one)) (t := .lst []) rfl)
  rw [map_nil_iff] at r
  exact toT_eq r
theorem fl_comp {s0 s1 s2 s4 s5 s7 : Sl Γ} {C : List P} (h5 : nonOwn s5 = true) (lC : C.length < 1000) (hC : ∀ c ∈ C, c.length ≤ 1000) (A : List P) : compL [6] (gNm 6) FT (mVar 6) (A.map tD) (FE s0 s1 s2 (.dat (fD C)) s4 s5 .none s7) = some ((A.filter fun one => !decide ((C.filter fun c => subB c one) = [])).map tD, FE s0 s1 s2 (.dat (fD C)) s4 s5 .none s7) :=
  compL_fil (Γ := Γ) tD tD (fun one => !decide ((C.filter fun c => subB c one) = [])) A fun one h1 =>
    ⟨FE s0 s1 s2 (.dat (fD C)) s4 s5 (.dat (tD one)) s7, rfl, fl_test (.inr rfl) h5 lC hC, fun _ => rfl, rfl⟩
end
end K

set_option maxHeartbeats 400000
namespace K
open PySem L2 G Fam
section
variable {Γ : Gam}
theorem compL_fil1 {α : Type} {vs : List Nat} {t : Eg Γ} {tc : Et Γ} {f : Ev Γ} {env0 env e1 e2 : Env Γ} (h g : α → G.D) (p : α → Bool) {a : α} {as : List α} (h1 : t (h a) env0 = some e1) (h2 : tc e1 = some (p a, e2)) (h3 : p a = true → f e2 = some (.dat (g a), e2)) (h4 : wipeE vs e2 = some env) (ih : compL vs t tc f (as.map h) env = some ((as.filter p).map g, env)) : compL vs t tc f ((a :: as).map h) env0 = some (((a :: as).filter p).map g, env) := by
  rw [List.map_cons]
  unfold compL
  rw [h1]
  by_cases hx : p a = true
  · have h3 := h3 hx
    rw [hx] at h2
    simp only [h2, h3, h4, ih, Option.map_some]
    rw [List.filter_cons_of_pos hx]
    rfl
  · rw [Bool.eq_false_iff.mpr hx] at h2
    simp only [h2, h4, ih]
    rw [List.filter_cons_of_neg hx]
theorem fl_lc {s0 s1 s4 s5 s7 : Sl Γ} {A C : List P} (h5 : nonOwn s5 = true) (lA : A.length ≤ 1000) (lC : C.length < 1000) (hC : ∀ c ∈ C, c.length ≤ 1000) : ∃ x3 : Sl Γ, mLc (iSeq (mVar 2)) [6] (gNm 6) FT (mVar 6) (FE s0 s1 (.lst (A.map tD)) (.lst (C.map tD)) s4 s5 .none s7) = some (.lst ((A.filter fun one => !decide ((C.filter fun c => subB c one) = [])).map tD), FE s0 s1 (.dat (fD A)) x3 s4 s5 .none s7) := by
  cases A with
  | nil =>
    have l := lc_eq (fi := iSeq (mVar 2)) (vs := [6]) (t := gNm 6) (tc := FT) (f := mVar 6) (env := FE s0 s1 (.lst (([] : List P).map tD)) (.lst (C.map tD)) s4 s5 .none s7) (ds := ([] : List P).map tD) (e1 := FE s0 s1 (.dat (fD [])) (.lst (C.map tD)) s4 s5 .none s7) rfl (by decide) (e2 := FE s0 s1 (.dat (fD [])) (.lst (C.map tD)) s4 s5 .none s7) rfl rfl
    exact ⟨_, l.trans rfl⟩
  | cons a as =>
    have c := compL_fil1 (Γ := Γ) (vs := [6]) (t := gNm 6) (tc := FT) (f := mVar 6) (env0 := FE s0 s1 (.dat (fD (a :: as))) (.lst (C.map tD)) s4 s5 .none s7) tD tD (fun one => !decide ((C.filter fun c => subB c one) = [])) (a := a) (as := as) (e1 := FE s0 s1 (.dat (fD (a :: as))) (.lst (C.map tD)) s4 s5 (.dat (tD a)) s7) rfl (fl_test (.inl rfl) h5 lC hC) (fun _ => rfl) rfl (fl_comp h5 lC hC as)
    have l := lc_eq (fi := iSeq (mVar 2)) (env := FE s0 s1 (.lst ((a :: as).map tD)) (.lst (C.map tD)) s4 s5 .none s7) (ds := (a :: as).map tD) (e1 := FE s0 s1 (.dat (fD (a :: as))) (.lst (C.map tD)) s4 s5 .none s7) rfl (by rw [List.length_map]; exact big lA) (e2 := FE s0 s1 (.dat (fD (a :: as))) (.lst (C.map tD)) s4 s5 .none s7) rfl c
    exact ⟨_, l.trans rfl⟩
theorem erase_mapD {α β : Type} {f : α → β} : ∀ (l : List α) (k : Nat), (l.map f).eraseIdx k = (l.eraseIdx k).map f
  | [], _ => rfl
  | _ :: _, 0 => rfl
  | a :: l, k + 1 => by
    show f a :: (l.map f).eraseIdx k = f a :: (l.eraseIdx k).map f
    rw [erase_mapD l k]
theorem perm_erase {α : Type} : ∀ (l : List α) (k : Nat) (h : k < l.length), (l[k] :: l.eraseIdx k).Perm l
  | a :: l, 0, _ => List.Perm.refl _
  | a :: l, k + 1, h => by
    have ih := perm_erase l k (Nat.lt_of_succ_lt_succ h)
    exact (List.Perm.swap a _ _).trans (ih.cons a)
theorem upop_r {ds : List G.D} {r : Int} {d : G.D} (r0 : 0 ≤ r) (r1 : r < 2 ^ 62) (h : ds[r.toNat]? = some d) : uPop (Γ := Γ) ds [.dat (.int r)] = some (d, ds.eraseIdx r.toNat) := by
  have i1 : 0 ≤ r ∧ r < 2 ^ 62 := ⟨r0, r1⟩
  show (if 0 ≤ r ∧ r < 2 ^ 62 then (ds[r.toNat]?).map fun d => (d, ds.eraseIdx r.toNat) else none) = _
  rw [if_pos i1, h]
  rfl
theorem upop_at {C : List P} {k : Nat} (kl : k < C.length) (hl : k ≤ 100) : uPop (Γ := Γ) (C.map tD) [.dat (.int (k : Nat))] = some (tD C[k], (C.eraseIdx k).map tD) := by
  have h := upop_r (Γ := Γ) (ds := C.map tD) (r := (k : Nat)) (d := tD C[k]) (Int.natCast_nonneg k) (Int.lt_of_le_of_lt (by omega : (k : Int) ≤ 100) (by decide)) (by rw [Int.toNat_natCast, List.getElem?_map, List.getElem?_eq_getElem kl]; rfl)
  rw [Int.toNat_natCast, erase_mapD] at h
  exact h
abbrev PPB : Es Γ := mDrop (mMut 7 uAppend [.ex (mFrz (mMut 3 uPop [.ex (mFrz (mCall 2 f_law_take [.brw 0, .ex (mN (pN1 pLen) [.brw 3])]))]))])
theorem pp_turn {N : Nat} {s s1 s2 s4 s5 s6 : Sl Γ} {C D : List P} (hs : isBag N s) (hN : N + 10 < 1000000) (lC : 0 < C.length) (lC' : C.length ≤ 100) (lD : D.length ≤ 100) : ∃ (s' : Sl Γ) (C' D' : List P), isBag (N + 1) s' ∧ C'.length + 1 = C.length ∧ D'.length = D.length + 1 ∧ (D' ++ C').Perm (D ++ C) ∧
    PPB (FE s s1 s2 (.lst (C.map tD)) s4 s5 s6 (.lst (D.map tD))) = some (.nx, FE s' s1 s2 (.lst (C'.map tD)) s4 s5 s6 (.lst (D'.map tD))) := by
  obtain ⟨k, t1, kl, b1, e1⟩ := take_len (Γ := Γ) (env := FE s s1 s2 (.lst (C.map tD)) s4 s5 s6 (.lst (D.map tD))) (j := 3) rfl hs (by omega) rfl (.inl rfl) (by rw [List.length_map]; exact lC) (by rw [List.length_map]; omega)
  rw [List.length_map] at kl
  have e1 : mCall 2 f_law_take [.brw 0, .ex (mN (pN1 pLen) [.brw 3])] (FE s s1 s2 (.lst (C.map tD)) s4 s5 s6 (.lst (D.map tD))) = some (.dat (.int (k : Nat)), FE t1 s1 s2 (.lst (C.map tD)) s4 s5 s6 (.lst (D.map tD))) := e1
  have fz : mFrz (mCall 2 f_law_take [.brw 0, .ex (mN (pN1 pLen) [.brw 3])]) (FE s s1 s2 (.lst (C.map tD)) s4 s5 s6 (.lst (D.map tD))) = some (.dat (.int (k : Nat)), FE t1 s1 s2 (.lst (C.map tD)) s4 s5 s6 (.lst (D.map tD))) := by
    unfold mFrz
    rw [e1]
  have up : uPop (Γ := Γ) (C.map tD) [.dat (.int (k : Nat))] = some (tD C[k], (C.eraseIdx k).map tD) := upop_at kl (by omega)
  have mm : mFrz (mMut 3 uPop [.ex (mFrz (mCall 2 f_law_take [.brw 0, .ex (mN (pN1 pLen) [.brw 3])]))]) (FE s s1 s2 (.lst (C.map tD)) s4 s5 s6 (.lst (D.map tD))) = some (.dat (tD C[k]), FE t1 s1 s2 (.lst ((C.eraseIdx k).map tD)) s4 s5 s6 (.lst (D.map tD))) := by
    unfold mFrz at fz ⊢
    unfold mMut
    simp only [evAs, evA, List.getElem?_cons_succ, List.getElem?_cons_zero, fz, Option.map_some, peeks, peek, up]
    rfl
  have ap : uAppend (Γ := Γ) (D.map tD) [.dat (tD C[k])] = some (.non, (D ++ [C[k]]).map tD) := by
    show (if (D.map tD).length < sizeLine then some (G.D.non, D.map tD ++ [tD C[k]]) else none) = _
    rw [if_pos (Nat.lt_of_lt_of_le (by rw [List.length_map]; omega : (D.map tD).length < 1000) (by decide)), List.map_append]
    rfl
  refine ⟨t1, C.eraseIdx k, D ++ [C[k]], b1, ?_, ?_, ?_, ?_⟩
  · rw [List.length_eraseIdx_of_lt kl]
    omega
  · rw [List.length_append, List.length_singleton]
  · rw [List.append_assoc]
    exact List.Perm.append_left D (perm_erase C k kl)
  · show mDrop (mMut 7 uAppend [.ex (mFrz (mMut 3 uPop [.ex (mFrz (mCall 2 f_law_take [.brw 0, .ex (mN (pN1 pLen) [.brw 3])]))]))]) _ = _
    generalize mFrz (mMut 3 uPop [.ex (mFrz (mCall 2 f_law_take [.brw 0, .ex (mN (pN1 pLen) [.brw 3])]))]) = z at mm ⊢
    unfold mDrop mMut
    simp only [evAs, evA, List.getElem?_cons_succ, List.getElem?_cons_zero, mm, Option.map_some, peeks, peek, ap]
    rfl
theorem pp_loop {s1 s2 s5 s6 : Sl Γ} : ∀ (ds : List G.D) {N : Nat} {s s4 : Sl Γ} {C D : List P}, isBag N s → N + 10 * ds.length + 10 < 1000000 → C.length = ds.length → C.length + D.length ≤ 100 → ∃ (s' s4' : Sl Γ) (D' : List P), isBag (N + ds.length) s' ∧ D'.Perm (D ++ C) ∧
    forL (gNm 4) PPB ds (FE s s1 s2 (.lst (C.map tD)) s4 s5 s6 (.lst (D.map tD))) = some (.nx, FE s' s1 s2 (.lst []) s4' s5 s6 (.lst (D'.map tD)))
  | [], N, s, s4, C, D, hs, _, hl, _ => by
    rw [List.length_nil] at hl
    have e := List.length_eq_zero_iff.mp hl
    rw [e]
    exact ⟨s, s4, D, hs, by rw [List.append_nil], rfl⟩
  | d :: ds, N, s, s4, C, D, hs, hN, hl, h1 => by
    rw [List.length_cons] at hN hl
    obtain ⟨t1, C1, D1, b1, c1, d1, p1, q1⟩ := pp_turn (Γ := Γ) (s1 := s1) (s2 := s2) (s4 := .dat d) (s5 := s5) (s6 := s6) (C := C) (D := D) hs (by omega) (by omega) (by omega) (by omega)
    obtain ⟨t2, u4, D2, b2, p2, q2⟩ := pp_loop ds (s4 := .dat d) (C := C1) (D := D1) b1 (by omega) (by omega) (by omega)
    exact ⟨t2, u4, D2, b2.mono (by rw [List.length_cons]; omega), p2.trans p1, (forL_nx1 rfl q1).trans q2⟩
end
end K

set_option maxHeartbeats 400000
namespace K
open PySem L2 G Fam
section
variable {Γ : Gam}
abbrev FAI : Es Γ := mIfS (toT (m2 pEq (.ex (mCall 2 f_law_take [.brw 0, .ex (mC (.int 3))])) (.ex (mC (.int 0))))) (mSet 3 (mLc (iSeq (mVar 2)) [6] (gNm 6) FT (mVar 6))) (mNx)
theorem fa_if {N : Nat} {s s1 s4 s5 : Sl Γ} {A C : List P} (hs : isBag N s) (hN : N + 10 < 1000000) (h5 : nonOwn s5 = true) (lA : A.length ≤ 100) (nA : A.Nodup) (lC : C.length ≤ 50) (l6 : ∀ c ∈ A, c.length ≤ 1000) (hC : C.Nodup ∧ ∀ c ∈ C, c ∈ A) : ∃ (s' s2' : Sl Γ) (C' : List P), isBag (N + 1) s' ∧ (C'.Nodup ∧ ∀ c ∈ C', c ∈ A) ∧ C'.length ≤ 100 ∧
    FAI (FE s s1 (.lst (A.map tD)) (.lst (C.map tD)) s4 s5 .none .none) = some (.nx, FE s' s1 s2' (.lst (C'.map tD)) s4 s5 .none .none) := by
  obtain ⟨r, t2, r0, r1, b2, e2⟩ := take_c (Γ := Γ) (env := FE s s1 (.lst (A.map tD)) (.lst (C.map tD)) s4 s5 .none .none) (b := 0) rfl hs (by omega) 3 (by decide) (by decide)
  have e2 : mCall 2 f_law_take [.brw 0, .ex (mC (.int 3))] (FE s s1 (.lst (A.map tD)) (.lst (C.map tD)) s4 s5 .none .none) = some (.dat (.int r), FE t2 s1 (.lst (A.map tD)) (.lst (C.map tD)) s4 s5 .none .none) := e2
  have g := toT_eq (m2_ex e2 (g := mC (.int 0)) (t := .dat (.int 0)) rfl (eq_ints (Γ := Γ) (g := id) (n := r) (m := 0)))
  cases c : id (decide (r = 0)) with
  | false =>
    rw [c] at g
    exact ⟨t2, _, C, b2, hC, by omega, (ifs_f g).trans rfl⟩
  | true =>
    rw [c] at g
    obtain ⟨x3, l⟩ := fl_lc (Γ := Γ) (s0 := t2) (s1 := s1) (s4 := s4) (s5 := s5) (s7 := .none) (A := A) (C := C) h5 (by omega) (by omega) fun c hc => l6 c (hC.2 c hc)
    exact ⟨t2, .dat (fD A), A.filter (fun one => !decide ((C.filter fun c => subB c one) = [])), b2, ⟨nA.filter _, fun c hc => (List.mem_filter.mp hc).1⟩, Nat.le_trans (List.length_filter_le _ _) lA, (ifs_t g).trans ((set_eq (i := 3) l (by show 3 < 8; decide)).trans rfl)⟩
theorem eval_family {N : Nat} {s : Sl Γ} {I : P} (hI : Up I) (h6 : I.length ≤ 6) (hs : isBag N s) (hN : N + 2000 < 1000000) : ∃ (s' : Sl Γ) (F : List P), isBag (N + 200) s' ∧ (F.Nodup ∧ ∀ f ∈ F, Up f ∧ sub f I) ∧ f_law_family [s, .dat (tD I)] = some (.lst (F.map tD), [s', .dat (tD I)]) := by
  obtain ⟨p1, p2⟩ := parts_spec hI
  have nA := ts_nd p1
  have lA := fam_len hI h6 nA fun t ht => (p2 t).mp ht
  have hA : lawParts I ≠ [] := List.ne_nil_of_mem ((p2 []).mpr ⟨List.Pairwise.nil, fun x hx => by cases hx⟩)
  have l6 : ∀ c ∈ lawParts I, c.length ≤ 1000 := fun c hc => Nat.le_trans (part_len h6 ((p2 c).mp hc)) (by decide)
  have ep := eval_parts (Γ := Γ) h6
  generalize lawParts I = A at nA lA hA l6 ep p2
  have q0 : mPar 2 3 (mCall 1 f_law_parts [.brw 1]) (mN pLstN []) (FE s (.dat (tD I)) .none .none .none .none .none .none) = some (.nx, FE s (.dat (tD I)) (.lst (A.map tD)) (.lst (([] : List P).map tD)) .none .none .none .none) :=
    (par_eq ((call_dat (env := FE s (.dat (tD I)) .none .none .none .none .none .none) (b := 1) rfl ep)) lst_nil (by show 2 < 8; decide) (by show 3 < 8; decide)).trans rfl
  obtain ⟨r, t1, r0, r1, b1, e1⟩ := take_c (Γ := Γ) (env := FE s (.dat (tD I)) (.lst (A.map tD)) (.lst (([] : List P).map tD)) .none .none .none .none) (b := 0) rfl hs (by omega) 7 (by decide) (by decide)
  have e1 : mCall 2 f_law_take [.brw 0, .ex (mC (.int 7))] (FE s (.dat (tD I)) (.lst (A.map tD)) (.lst (([] : List P).map tD)) .none .none .none .none) = some (.dat (.int r), FE t1 (.dat (tD I)) (.lst (A.map tD)) (.lst (([] : List P).map tD)) .none .none .none .none) := e1
  have rg := rng_eq e1 r0 (by omega)
  have dl : ((List.range r.toNat).map fun (k : Nat) => G.D.int (k : Int)).length ≤ 7 := by rw [List.length_map, List.length_range]; omega
  generalize ((List.range r.toNat).map fun (k : Nat) => G.D.int (k : Int)) = ds at rg dl
  obtain ⟨t2, u4, u5, C, b2, n5, c2, l2, lp⟩ := fa_loop (Γ := Γ) (s1 := .dat (tD I)) (s6 := .none) (s7 := .none) hA (by omega) ds (s4 := .none) (s5 := .none) (C := []) b1 (by omega) rfl (by rw [List.length_nil]; omega) ⟨List.nodup_nil, fun c hc => by cases hc⟩
  have q1 := for_eq rg lp
  obtain ⟨t3, s2', C', b3, c3, l3, q2⟩ := fa_if (Γ := Γ) (s1 := .dat (tD I)) (s4 := u4) b2 (by omega) n5 (by omega) nA l2 l6 c2
  have q3 : mSet 7 (mN pLstN []) (FE t3 (.dat (tD I)) s2' (.lst (C'.map tD)) u4 u5 .none .none) = some (.nx, FE t3 (.dat (tD I)) s2' (.lst (C'.map tD)) u4 u5 .none (.lst (([] : List P).map tD))) := (set_eq lst_nil (by show 7 < 8; decide)).trans rfl
  have rl := rng_eq (len_at (env := FE t3 (.dat (tD I)) s2' (.lst (C'.map tD)) u4 u5 .none (.lst (([] : List P).map tD))) (i := 3) rfl (.inl rfl)) (by omega) (by rw [List.length_map]; omega)
  have dl2 : ((List.range (((C'.map tD).length : Int)).toNat).map fun (k : Nat) => G.D.int (k : Int)).length = C'.length := by rw [List.length_map, List.length_range, Int.toNat_natCast, List.length_map]
  generalize ((List.range (((C'.map tD).length : Int)).toNat).map fun (k : Nat) => G.D.int (k : Int)) = es at rl dl2
  obtain ⟨t4, w4, F, b4, pf, lp2⟩ := pp_loop (Γ := Γ) (s1 := .dat (tD I)) (s2 := s2') (s5 := u5) (s6 := .none) es (s4 := u4) (C := C') (D := []) b3 (by omega) (by omega) (by rw [List.length_nil]; omega)
  have q4 := for_eq rl lp2
  rw [List.nil_append] at pf
  have q5 : mRetMv 7 (FE t4 (.dat (tD I)) s2' (.lst []) w4 u5 .none (.lst (F.map tD))) = some (.rt (.lst (F.map tD)), FE t4 (.dat (tD I)) s2' (.lst []) w4 u5 .none .none) := rfl
  refine ⟨t4, F, b4.mono (by omega), ⟨pf.nodup_iff.mpr c3.1, fun f hf => (p2 f).mp (c3.2 f (pf.mem_iff.mp hf))⟩, ?_⟩
  exact fun_rt (args := [s, .dat (tD I)]) (np := 2) (loc := 6) (A := [2, 3, 4, 5, 7]) rfl rfl ((seq_nx q0).trans ((seq_nx q1).trans ((seq_nx q2).trans ((seq_nx q3).trans ((seq_nx q4).trans q5)))))
end
end K

set_option maxHeartbeats 400000
namespace K
open PySem L2 G Fam
section
variable {Γ : Gam}
abbrev EL (s0 s1 s2 s3 s4 s5 : Sl Γ) : Env Γ := [s0, s1, s2, s3, s4, s5]
theorem call_bx2 {f : Fn Γ} {env env1 : Env Γ} {b : Nat} {s s1 s' r x x' : Sl Γ} {fm : Ev Γ} (hb : env[b]? = some s) (ho : nonOwn s = false) (hm : fm env = some (x, env1)) (hb1 : env1[b]? = some s1) (ho1 : nonOwn s1 = false) (he : f [s1, x] = some (r, [s', x'])) : mCall 2 f [.brw b, .ex fm] env = some (r, env1.set b s') := by
  have g : got (some s) = some s := by cases s <;> first | rfl | cases ho
  have g1 : got (some s1) = some s1 := by cases s1 <;> first | rfl | cases ho1
  simp [mCall, evAs, evA, hb, g, hb1, g1, takeA, ho, ho1, hm, he, putA]
abbrev LWI : Ev Γ := mIf (toT (m2 pEq (.ex (mCall 2 f_law_take [.brw 2, .ex (mC (.int 8))])) (.ex (mC (.int 3))))) (mC (.int 6)) (mCall 2 f_law_take [.brw 2, .ex (mC (.int 6))])
theorem lw_n {N : Nat} {s0 s1 s s3 s4 s5 : Sl Γ} (hs : isBag N s) (hN : N + 10 < 1000000) : ∃ (s' : Sl Γ) (n : Nat), isBag (N + 2) s' ∧ n ≤ 6 ∧ LWI (EL s0 s1 s s3 s4 s5) = some (.dat (.int (n : Nat)), EL s0 s1 s' s3 s4 s5) := by
  obtain ⟨r, t1, r0, r1, b1, e1⟩ := take_c (Γ := Γ) (env := EL s0 s1 s s3 s4 s5) (b := 2) rfl hs (by omega) 8 (by decide) (by decide)
  have e1 : mCall 2 f_law_take [.brw 2, .ex (mC (.int 8))] (EL s0 s1 s s3 s4 s5) = some (.dat (.int r), EL s0 s1 t1 s3 s4 s5) := e1
  have g := toT_eq (m2_ex e1 (g := mC (.int 3)) (t := .dat (.int 3)) rfl (eq_ints (Γ := Γ) (g := id) (n := r) (m := 3)))
  cases c : id (decide (r = 3)) with
  | true =>
    rw [c] at g
    exact ⟨t1, 6, b1.mono (by omega), by omega, (if_t5 g).trans rfl⟩
  | false =>
    rw [c] at g
    obtain ⟨r2, t2, q0, q1, b2, e2⟩ := take_c (Γ := Γ) (env := EL s0 s1 t1 s3 s4 s5) (b := 2) rfl b1 (by omega) 6 (by decide) (by decide)
    obtain ⟨n, rfl⟩ := Int.eq_ofNat_of_zero_le q0
    exact ⟨t2, n, b2, by omega, (if_f5 g).trans e2⟩
theorem lw_items {N : Nat} {s0 s1 s s3 s4 s5 : Sl Γ} (hs : isBag N s) (hN : N + 200 < 1000000) : ∃ (s' : Sl Γ) (I : P), isBag (N + 30) s' ∧ Up I ∧ I.length ≤ 6 ∧ (∀ n ∈ I, isNo n) ∧ mSet 3 (mN (pN1 pTuple) [.ex (mCall 2 f_law_items [.brw 2, .ex LWI])]) (EL s0 s1 s s3 s4 s5) = some (.nx, EL s0 s1 s' (.dat (tD I)) s4 s5) := by
  obtain ⟨t1, n, b1, n6, e1⟩ := lw_n (Γ := Γ) (s0 := s0) (s1 := s1) (s3 := s3) (s4 := s4) (s5 := s5) hs (by omega)
  obtain ⟨t2, I, b2, u, l, no, e2⟩ := eval_items (Γ := Γ) n6 b1 (by omega)
  obtain ⟨i, j, k, hb, _⟩ := id b1
  have cl : mCall 2 f_law_items [.brw 2, .ex LWI] (EL s0 s1 s s3 s4 s5) = some (.lst (I.map .int), EL s0 s1 t2 (s3) s4 s5) := by
    obtain ⟨i0, j0, k0, hb0, _⟩ := id hs
    have c := call_bx2 (f := f_law_items) (env := EL s0 s1 s s3 s4 s5) (b := 2) rfl (by rw [hb0]; rfl) e1 (s1 := t1) rfl (by rw [hb]; rfl) e2
    exact c.trans rfl
  exact ⟨t2, I, b2.mono (by omega), u, l, no, (set_eq (i := 3) (tup_ints cl) (by show 3 < 6; decide)).trans rfl⟩
end
end K

set_option maxHeartbeats 400000
namespace K
open PySem L2 G Fam
section
variable {Γ : Gam} {env e1 e2 : Env Γ} {s : Sl Γ} {q q' : Qe Γ} {d : G.D} {g : Nat}
theorem vw_lstS {ds : List G.D} : vw g env (.lst ds) = .lst ds := rfl
theorem qv_repr (h : Qv q env s e1) (hw : vw g e1 s = s) (hv : s.view = some d) (r : RP d) : Qv (xN g (pN1 pRepr) [.ex q]) env (.dat (.str (tx d))) e1 := qv_n (g := g) (av_ex h av_nil) (ss := [s]) rfl (by
  rw [List.map_cons, List.map_nil, hw]
  exact repr_is hv r)
theorem vw_str {x : Str} : vw g env (.dat (.str x)) = .dat (.str x) := vw_dat (by exact nofun)
/-- repr(..) != repr(..) of the same -/
theorem tv_rne (h : Qv q env (.dat (.str (tx d))) e1) (h' : Qv q' e1 (.dat (.str (tx d))) e2) (r : RP d) : Tv (xT (xN g (pN2 pNe) [.ex q, .ex q'])) env false e2 := tv_t (qv_n (g := g) (av_ex h (av_ex h' av_nil)) (ss := [.dat (.str (tx d)), .dat (.str (tx d))]) rfl (by
  rw [List.map_cons, List.map_cons, List.map_nil, vw_str]
  exact pne_is r))
theorem tv_parts {I : P} (hI : Up I) (h6 : I.length ≤ 6) (no : ∀ n ∈ I, isNo n) {env : Env Γ} (h3 : env[3]? = some (.dat (tD I))) : Tv (Γ := Γ) (xT (xN 0 (pN2 pNe) [.ex (xN 0 (pN1 pRepr) [.ex (xLcG x_subsets [.brw 3])]), .ex (xE (mN (pN1 pRepr) [.ex (mCall 1 f_law_parts [.brw 3])]))])) env false env := by
  obtain ⟨p1, p2⟩ := parts_spec hI
  have rp : RP (.lst ((lawParts I).map tD)) := rp_fam (fun p hp => ⟨fun n hn => no n (((p2 p).mp hp).2 n hn), part_len h6 ((p2 p).mp hp)⟩) (fam_len hI h6 (ts_nd p1) fun t ht => (p2 t).mp ht)
  have a := qv_subsets (Γ := Γ) hI h6 h3
  rw [levs_parts hI] at a
  have b : Qv (Γ := Γ) (xE (mN (pN1 pRepr) [.ex (mCall 1 f_law_parts [.brw 3])])) env (.dat (.str (tx (.lst ((lawParts I).map tD))))) env := qv_e (mrepr_x (call_dat h3 (eval_parts h6)) rfl rp)
  exact tv_rne (qv_repr a vw_lstS rfl rp) b rp
end
end K

set_option maxHeartbeats 400000
namespace K
open PySem L2 G Fam
section
variable {Γ : Gam}
theorem qv_right1 {I : P} {F : List P} (h : Fam6 I F) {s0 s1 s2 s4 : Sl Γ} : Qv (Γ := Γ) (xCall 2 g_law_right [.brw 3, .brw 5]) (EL s0 s1 s2 (.dat (tD I)) s4 (.lst (F.map tD))) (.dat (.bl true)) (EL s0 s1 s2 (.dat (tD I)) s4 (.dat (fD F))) := fun K KX k =>
  av_brw (i := 3) rfl (by exact nofun) (av_brw (i := 5) rfl (by exact nofun) av_nil) _ KX ⟨_, _, _, rfl, rfl, (fv_right h (.inl rfl)) _ _ k⟩
theorem qv_right2 {I : P} {F : List P} (h : Fam6 I F) {s0 s1 s2 s4 : Sl Γ} : Qv (Γ := Γ) (xCall 2 g_law_right [.brw 3, .ex (xE (m1 pRev (.brw 5)))]) (EL s0 s1 s2 (.dat (tD I)) s4 (.dat (fD F))) (.dat (.bl true)) (EL s0 s1 s2 (.dat (tD I)) s4 (.dat (fD F))) := fun K KX k => by
  have hr : Fam6 I F.reverse := ⟨h.u, h.l, h.no, (List.reverse_perm F).nodup_iff.mpr h.nd, fun f hf => h.m f (List.mem_reverse.mp hf)⟩
  have e : m1 pRev (.brw 5) (EL s0 s1 s2 (.dat (tD I)) s4 (.dat (fD F))) = some (.lst (F.reverse.map tD), EL s0 s1 s2 (.dat (tD I)) s4 (.dat (fD F))) := by
    rw [List.map_reverse]
    rfl
  exact av_brw (i := 3) rfl (by exact nofun) (av_ex (qv_e e) av_nil) _ KX ⟨_, _, _, rfl, rfl, (fv_right hr (.inl rfl)) _ _ k⟩
theorem tv_tr1 {q : Qe Γ} {env e1 : Env Γ} (h : Qv q env (.dat (.bl true)) e1) : Tv (xNotT (xTru 0 (.ex q))) env false e1 := tv_not (b := true) (tv_tru (g := 0) (s := .dat (.bl true)) (av_ex h av_nil) rfl (by rw [vw_dat (by exact nofun)]; rfl))
theorem tv_right {I : P} {F : List P} (h : Fam6 I F) {s0 s1 s2 s4 : Sl Γ} : Tv (Γ := Γ) (xOrT (xNotT (xTru 0 (.ex (xCall 2 g_law_right [.brw 3, .brw 5])))) (xNotT (xTru 0 (.ex (xCall 2 g_law_right [.brw 3, .ex (xE (m1 pRev (.brw 5)))]))))) (EL s0 s1 s2 (.dat (tD I)) s4 (.lst (F.map tD))) false (EL s0 s1 s2 (.dat (tD I)) s4 (.dat (fD F))) := tv_or_f (tv_tr1 (qv_right1 h)) (tv_tr1 (qv_right2 h))
end
end K

set_option maxHeartbeats 400000
namespace K
open PySem L2 G Fam
section
variable {Γ : Gam}
abbrev FI (ns : List Int) (e : Env Γ) : Prop := ∃ v1 v2 v3 v4 v5 : Sl Γ, e = EL (.scr ns) v1 v2 v3 v4 v5
theorem sw_lw (ns : List Int) (k : Nat) (hk : k ≤ 3) {v2 v3 v4 v5 : Sl Γ} : Sw (Γ := Γ) (xSeq (xS (mSet 2 (mCall 2 f_law_bag [.brw 0, .brw 1])))
    (xSeq (xS (mSet 3 (mN (pN1 pTuple) [.ex (mCall 2 f_law_items [.brw 2, .ex LWI])])))
    (xSeq (xIfS (xT (xN 0 (pN2 pNe) [.ex (xN 0 (pN1 pRepr) [.ex (xLcG x_subsets [.brw 3])]), .ex (xE (mN (pN1 pRepr) [.ex (mCall 1 f_law_parts [.brw 3])]))])) (xS (mRet (mC (.bl false)))) (xNx))
    (xSeq (xS (mSet 5 (mCall 2 f_law_family [.brw 2, .brw 3])))
    (xIfS (xOrT (xNotT (xTru 0 (.ex (xCall 2 g_law_right [.brw 3, .brw 5])))) (xNotT (xTru 0 (.ex (xCall 2 g_law_right [.brw 3, .ex (xE (m1 pRev (.brw 5)))]))))) (xS (mRet (mC (.bl false)))) (xNx)))))) (EL (.scr ns) (.dat (.int (k : Nat))) v2 v3 v4 v5) fun fl e => fl = .nx ∧ FI ns e := by
  obtain ⟨b, hb, e⟩ := eval_bag (Γ := Γ) ns k hk
  have e : mCall 2 f_law_bag [.brw 0, .brw 1] (EL (.scr ns) (.dat (.int (k : Nat))) v2 v3 v4 v5) = some (b, EL (.scr ns) (.dat (.int (k : Nat))) v2 v3 v4 v5) := by
    generalize f_law_bag = f at e ⊢
    simp [mCall, evAs, evA, got, takeA, nonOwn, e, putA]
  refine sw_vseq (sv_s ((set_eq (i := 2) e (by show 2 < 6; decide)).trans rfl)) ?_
  obtain ⟨b1, I, hb1, u, l, no, q1⟩ := lw_items (Γ := Γ) (s0 := .scr ns) (s1 := .dat (.int (k : Nat))) (s3 := v3) (s4 := v4) (s5 := v5) hb (by omega)
  refine sw_vseq (sv_s q1) ?_
  refine sw_vseq (sv_if_f (tv_parts u l no rfl) sv_nx) ?_
  obtain ⟨b2, F, hb2, hF, q2⟩ := eval_family (Γ := Γ) u l hb1 (by omega)
  have q2 : mCall 2 f_law_family [.brw 2, .brw 3] (EL (.scr ns) (.dat (.int (k : Nat))) b1 (.dat (tD I)) v4 v5) = some (.lst (F.map tD), EL (.scr ns) (.dat (.int (k : Nat))) b2 (.dat (tD I)) v4 v5) := by
    obtain ⟨i, j, z, hz, _⟩ := id hb1
    have n1 : nonOwn b1 = false := by rw [hz]; rfl
    have g1 : got (some b1) = some b1 := by rw [hz]; rfl
    generalize f_law_family = f at q2 ⊢
    have n2 : nonOwn (Γ := Γ) (.dat (tD I)) = true := rfl
    have g2 : got (some (Sl.dat (Γ := Γ) (tD I))) = some (.dat (tD I)) := rfl
    simp [mCall, evAs, evA, g1, g2, takeA, n1, n2, q2, putA]
  refine sw_vseq (sv_s ((set_eq (i := 5) q2 (by show 5 < 6; decide)).trans rfl)) ?_
  exact (sv_if_f (tv_right ⟨u, l, no, hF.1, hF.2⟩) sv_nx).w.imp fun fl e ⟨h1, h2⟩ => ⟨h1, _, _, _, _, _, h2⟩
end
theorem law_true (Γ : Gam) (ns : List Int) (hl : ns.length ≤ 63) : g_law (Γ := Γ) [.scr ns] (fun r _ => r = .dat (.bl true)) fun _ _ => False := by
  have fw : Fw (Γ := Γ) g_law [.scr ns] fun r _ => r = .dat (.bl true) := by
    refine fw_of (p := b_law) (np := 1) (loc := 5) (A := [1, 2, 3, 5]) (e0 := EL (.scr ns) .none .none .none .none .none) rfl rfl rfl ?_
    unfold b_law
    obtain ⟨m, hm, io⟩ : ∃ m : Nat, m ≤ 4 ∧ iRng (mN (pN2 pMax2) [.ex (mC (.int 1)), .ex (mN (pN2 pMin2) [.ex (mC (.int 4)), .ex (mN (pN1 pLen) [.brw 0])])]) (EL (Γ := Γ) (.scr ns) .none .none .none .none .none) = some ((List.range m).map fun (k : Nat) => G.D.int (k : Int), EL (.scr ns) .none .none .none .none .none) := by
      have ll : mN (Γ := Γ) (pN1 pLen) [.brw 0] (EL (.scr ns) .none .none .none .none .none) = some (.dat (.int (ns.length : Nat)), EL (.scr ns) .none .none .none .none .none) := by
        simp [mN, evAs, evA, got, peeks, peek, pN1, pLen, Sl.view, di]
      have ev := max_xx (f := mC (.int 1)) (env := EL (Γ := Γ) (.scr ns) .none .none .none .none .none) (x := 1) rfl (min_xx (f := mC (.int 4)) (x := 4) rfl ll)
      exact ⟨(max 1 (min 4 (ns.length : Int))).toNat, by omega, rng_eq ev (by omega) (by omega)⟩
    refine sw_seq (P := FI ns) (sw_for (fun _ e => FI ns e) (iv_i io) ⟨_, _, _, _, _, rfl⟩ (fun i e _ => nxD_eq i) fun i d e hd ⟨v1, v2, v3, v4, v5, he⟩ => ?_) fun e ⟨v1, v2, v3, v4, v5, he⟩ => ?_
    · subst he
      obtain ⟨k, hk, rfl⟩ := List.mem_map.mp (List.mem_of_getElem? hd)
      have hk := List.mem_range.mp hk
      exact ⟨EL (.scr ns) (.dat (.int (k : Nat))) v2 v3 v4 v5, rfl, sw_lw ns k (by omega)⟩
    · subst he
      exact (sv_s (f := mRet (mC (.bl true))) (fl := .rt (.dat (.bl true))) rfl).w.imp fun fl e ⟨h1, h2⟩ => ⟨_, h1, rfl⟩
  exact fw _ _ fun r a h => h
end K

set_option maxHeartbeats 4000000
namespace K
open PySem L2 G
noncomputable section
variable {Γ : Gam} {P : Program} {w : World} {mg : Str → Option Value} {base : Heap}
theorem d_told_key {f : Addr} {fd : FuncData} (F : Fun Γ.K "told_key" "told_key" s_told_key f fd) (T : Tx Γ mg) : FnOk P w Γ.K mg base CX0 1 f fd ["numbers"] (spG Γ 1 f_told_key) := by
  refine fn_okG (k := 0) (A := []) (body := b_told_key) F sc_told_key rfl rfl rfl fun cdv Ar outer s H E hr => ?_
  unfold b_told_key
  have e : defBody s_told_key = [_] := rfl
  rw [e]
  refine sdss_one ?_
  exact sds_ret (sd_tup (.cons (sda_ex (sd_frz (sd_callB b_len rfl T.n_len (by decide +kernel) (.cons (sda_var 0) ns_Name (.nil))))) ns_Call (.cons (sda_ex (sd_var 0)) ns_Name (.nil))))

theorem d_subsets {f : Addr} {fd : FuncData} (F : Fun Γ.K "subsets" "subsets" s_subsets f fd) (T : Tx Γ mg) : GFq (Γ := Γ) P w mg base 1 f fd ["items"] xc0 x_subsets [] := by
  refine gf_of (k := 0) (q := b_subsets) F sc_subsets rfl rfl rfl (fun sz cdv => rfl) ?_
  intro g e1 e2 e3 e4 e5 e6 e7 e8 e9 hl hl2 gd hr ok
  have hA : ∀ p ∈ g.lent, p.1 ∉ [1, 2] := fun p hp => absurd (hl p hp) (by simp)
  have tk := gp_takes g
  have po := gp_owns g
  cases g
  dsimp only at e1 e2 e3 e4 e5 e6 e7 e8 e9
  subst e1 e2 e3 e4 e5 e6 e7 e8 e9
  unfold b_subsets
  have e : defBody s_subsets = [_, _] := rfl
  rw [e]
  exact gst_cons (gst_pl ok hA (fun s₀ wd => (by have tk := tk s₀ wd; have po := po s₀ wd; exact xs_of (sds_set 1 (by decide) rfl (by first | exact Or.inl rfl | exact Or.inr rfl) (sd_lst (.cons (sda_ex (sd_tup (.nil))) ns_Tuple (.nil)))))))
    (gst_cons (gst_while ok (fun s₀ wd => (by have tk := tk s₀ wd; have po := po s₀ wd; exact sdxt_of (sdt_tru (sda_var 1))))
    (gst_cons (gst_for ok hA (fun s₀ wd => (by have tk := tk s₀ wd; have po := po s₀ wd; exact sdxi_of (sdi_seq (sd_var 1)))) (fun s₀ wd => (by have tk := tk s₀ wd; have po := po s₀ wd; exact sdg_name 2 (by decide) rfl (by first | exact Or.inl rfl | exact Or.inr rfl) (by first | exact Or.inl rfl | exact Or.inr rfl)))
    (gst_cons (gst_yield ok (fun s₀ wd => (by have tk := tk s₀ wd; have po := po s₀ wd; exact sdx_of (sd_var 2))))
    (gst_nil)))
    (gst_cons (gst_pl ok hA (fun s₀ wd => (by have tk := tk s₀ wd; have po := po s₀ wd; exact xs_of (sds_setLc2d 1 (by decide) rfl rfl (sw_true rfl rfl rfl (by decide +kernel)) (own := [("row", 2), ("item", 3)]) (blkOk_by (by exact rfl)) (by decide) (sdi_seq (sd_var 1)) (fun _ _ _ _ _ => sdg_name 2 (by simp) rfl (by first | exact Or.inl rfl | exact Or.inr rfl) (by first | exact Or.inl rfl | exact Or.inr rfl)) (fun _ _ _ _ _ => sdi_seq (sd_var 0)) (fun _ _ _ _ _ => sdg_name 3 (by simp) rfl (by first | exact Or.inl rfl | exact Or.inr rfl) (by first | exact Or.inl rfl | exact Or.inr rfl)) (.one fun _ _ _ _ _ => SdW.t (sdw_or (sdt_not (sdt_tru (sda_var 2))) (sdw_or1 (sdt_cmp c_gt (sda_var 3) (sda_ex (sd_ix (sda_var 2) (sda_ex (sd_neg (sda_ex (sd_int)))))))))) (fun _ _ _ _ _ => sd_add (sda_var 2) (sda_ex (sd_tup (.cons (sda_ex (sd_var 3)) ns_Name (.nil)))))))))
    (gst_nil))))
    (gst_nil))

theorem d_is_part {f : Addr} {fd : FuncData} (F : Fun Γ.K "is_part" "is_part" s_is_part f fd) (T : Tx Γ mg) : FnOk P w Γ.K mg base CX0 1 f fd ["part", "whole"] (spG Γ 2 f_is_part) := by
  refine fn_okG (k := 0) (A := []) (body := b_is_part) F sc_is_part rfl rfl rfl fun cdv Ar outer s H E hr => ?_
  unfold b_is_part
  have e : defBody s_is_part = [_] := rfl
  rw [e]
  refine sdss_one ?_
  exact sds_ret (sd_callB b_all rfl T.n_all (by decide +kernel) (.cons (sda_ex (sd_lc (own := [("number", 2)]) (blkOk_by (by exact rfl)) (sdi_seq (sd_var 0)) (fun _ _ _ _ _ => sdg_name 2 (by simp) rfl (by first | exact Or.inl rfl | exact Or.inr rfl) (by first | exact Or.inl rfl | exact Or.inr rfl)) .nil (fun _ _ _ _ _ => sd_cmp c_in (sda_var 2) (sda_var 1)))) (fun _ => rfl) (.nil)))

end
end K

set_option maxHeartbeats 4000000
namespace K
open PySem L2 G
noncomputable section
variable {Γ : Gam} {P : Program} {w : World} {mg : Str → Option Value} {base : Heap}
theorem d_least_of {f : Addr} {fd : FuncData} (F : Fun Γ.K "least_of" "least_of" s_least_of f fd) (T : Tx Γ mg) (C_told_key : Ca Γ P w mg base "told_key" 1 f_told_key 1) (C_is_part : Ca Γ P w mg base "is_part" 2 f_is_part 1) : FnOk P w Γ.K mg base CX0 4 f fd ["family"] (spG Γ 1 f_least_of) := by
  refine fn_okG (k := 3) (A := [1, 2]) (body := b_least_of) F sc_least_of rfl rfl rfl fun cdv Ar outer s H E hr => ?_
  unfold b_least_of
  have e : defBody s_least_of = [_, _, _] := rfl
  rw [e]
  refine sdss_cons ?_ ?_
  · exact sds_set 1 (by decide) rfl (by first | exact Or.inl rfl | exact Or.inr rfl) (sd_lst (.nil))
  refine sdss_cons ?_ ?_
  · exact sds_for PassesOwn.never (sdi_seq (sd_frz (sd_sortK C_told_key hr (by decide) rfl rfl T.n_sorted (sda_ex (sd_callTy b_list rfl T.n_list (by decide +kernel) (.cons (sda_var 0) ns_Name (.nil)))) ns_Call))) (sdg_name 2 (by decide) rfl (by first | exact Or.inl rfl | exact Or.inr rfl) (by first | exact Or.inl rfl | exact Or.inr rfl))
        (sdss_one (sds_if (sdt_not (sdt_tru (sda_ex (sd_lendN 1 (sd_callB b_any rfl T.n_any (by decide +kernel) (.cons (sda_ex (sd_lc (own := [("found", 3)]) (blkOk_by (by exact rfl)) (sdi_seq (sd_var 1)) (fun _ _ _ _ _ => sdg_name 3 (by simp) rfl (by first | exact Or.inl rfl | exact Or.inr rfl) (by first | exact Or.inl rfl | exact Or.inr rfl)) .nil (fun _ _ _ _ _ => sd_frz (sd_call (Ca.df rfl C_is_part hr (by decide)) rfl (.cons (sda_var 3) ns_Name (.cons (sda_var 2) ns_Name (.nil))))))) (fun _ => rfl) (.nil))))))) (sdss_one (sds_expr (sd_mut 1 PySem.F.slot_list_append PySem.F.type_list_append mt_append uAppend_ok rfl (by first | exact Or.inl rfl | exact Or.inr (Or.inl rfl) | exact Or.inr (Or.inr rfl)) (.cons (sda_ex (sd_var 2)) (fun _ => rfl) (.nil))))) (sdss_nil)))
  refine sdss_one ?_
  exact sds_retMv 1

theorem d_shares {f : Addr} {fd : FuncData} (F : Fun Γ.K "shares" "shares" s_shares f fd) (T : Tx Γ mg) : FnOk P w Γ.K mg base CX0 1 f fd ["one", "other"] (spG Γ 2 f_shares) := by
  refine fn_okG (k := 0) (A := []) (body := b_shares) F sc_shares rfl rfl rfl fun cdv Ar outer s H E hr => ?_
  unfold b_shares
  have e : defBody s_shares = [_] := rfl
  rw [e]
  refine sdss_one ?_
  exact sds_ret (sd_callB b_any rfl T.n_any (by decide +kernel) (.cons (sda_ex (sd_lc (own := [("number", 2)]) (blkOk_by (by exact rfl)) (sdi_seq (sd_var 0)) (fun _ _ _ _ _ => sdg_name 2 (by simp) rfl (by first | exact Or.inl rfl | exact Or.inr rfl) (by first | exact Or.inl rfl | exact Or.inr rfl)) .nil (fun _ _ _ _ _ => sd_cmp c_in (sda_var 2) (sda_var 1)))) (fun _ => rfl) (.nil)))

theorem d_blockers {f : Addr} {fd : FuncData} (F : Fun Γ.K "blockers" "blockers" s_blockers f fd) (T : Tx Γ mg) (C_least_of : Ca Γ P w mg base "least_of" 1 f_least_of 4) (C_shares : Ca Γ P w mg base "shares" 2 f_shares 1) : FnOk P w Γ.K mg base CX0 5 f fd ["family"] (spG Γ 1 f_blockers) := by
  refine fn_okG (k := 4) (A := [1, 2, 3, 4]) (body := b_blockers) F sc_blockers rfl rfl rfl fun cdv Ar outer s H E hr => ?_
  unfold b_blockers
  have e : defBody s_blockers = [_, _, _] := rfl
  rw [e]
  refine sdss_cons ?_ ?_
  · exact sds_set 1 (by decide) rfl (by first | exact Or.inl rfl | exact Or.inr rfl) (sd_lst (.cons (sda_ex (sd_tup (.nil))) ns_Tuple (.nil)))
  refine sdss_cons ?_ ?_
  · exact sds_for PassesOwn.never (sdi_seq (sd_frz (sd_call (Ca.df rfl C_least_of hr (by decide)) rfl (.cons (sda_var 0) ns_Name (.nil))))) (sdg_name 2 (by decide) rfl (by first | exact Or.inl rfl | exact Or.inr rfl) (by first | exact Or.inl rfl | exact Or.inr rfl))
        (sdss_cons ((by first | exact sds_set 3 (by decide) rfl (by first | exact Or.inl rfl | exact Or.inr rfl) (sd_lc (own := [("row", 4)]) (blkOk_by (by exact rfl)) (sdi_seq (sd_var 1)) (fun _ _ _ _ _ => sdg_name 4 (by simp) rfl (by first | exact Or.inl rfl | exact Or.inr rfl) (by first | exact Or.inl rfl | exact Or.inr rfl)) (.one fun _ _ _ _ _ => sdt_tru (sda_ex (sd_call (Ca.df rfl C_shares hr (by decide)) rfl (.cons (sda_var 4) ns_Name (.cons (sda_var 2) ns_Name (.nil)))))) (fun _ _ _ _ _ => sd_var 4)) | exact sds_setLc 3 (by decide) rfl rfl (sw_true rfl rfl rfl (by decide +kernel)) (own := [("row", 4)]) (blkOk_by (by exact rfl)) (sdi_seq (sd_var 1)) (fun _ _ _ _ _ => sdg_name 4 (by simp) rfl (by first | exact Or.inl rfl | exact Or.inr rfl) (by first | exact Or.inl rfl | exact Or.inr rfl)) (.one fun _ _ _ _ _ => sdt_tru (sda_ex (sd_call (Ca.df rfl C_shares hr (by decide)) rfl (.cons (sda_var 4) ns_Name (.cons (sda_var 2) ns_Name (.nil)))))) (fun _ _ _ _ _ => sd_var 4)))
        (sdss_cons (sds_for PassesOwn.never (sdi_seq (sd_var 1)) (sdg_name 4 (by decide) rfl (by first | exact Or.inl rfl | exact Or.inr rfl) (by first | exact Or.inl rfl | exact Or.inr rfl))
        (sdss_one (sds_if (sdt_not (sdt_tru (sda_ex (sd_call (Ca.df rfl C_shares hr (by decide)) rfl (.cons (sda_var 4) ns_Name (.cons (sda_var 2) ns_Name (.nil))))))) (sdss_one (sds_expr (sd_mut 3 PySem.F.slot_list_extend PySem.F.type_list_extend mt_extend uExtend_ok rfl (by first | exact Or.inl rfl | exact Or.inr (Or.inl rfl) | exact Or.inr (Or.inr rfl)) (.cons (sda_ex (sd_frz (sd_lc (own := [("number", 5)]) (blkOk_by (by exact rfl)) (sdi_seq (sd_var 2)) (fun _ _ _ _ _ => sdg_name 5 (by simp) rfl (by first | exact Or.inl rfl | exact Or.inr rfl) (by first | exact Or.inl rfl | exact Or.inr rfl)) .nil (fun _ _ _ _ _ => sd_frz (sd_callTy b_tuple rfl T.n_tuple (by decide +kernel) (.cons (sda_ex (sd_callB b_sorted rfl T.n_sorted (by decide +kernel) (.cons (sda_ex (sd_starE (sd_var 4) (sd_var 5) ns_Name)) ns_List (.nil)))) ns_Call (.nil))))))) (fun _ => rfl) (.nil))))) (sdss_nil))))
        (sdss_one (sds_set 1 (by decide) rfl (by first | exact Or.inl rfl | exact Or.inr rfl) (sd_call (Ca.df rfl C_least_of hr (by decide)) rfl (.cons (sda_var 3) ns_Name (.nil)))))))
  refine sdss_one ?_
  exact sds_retMv 1

theorem d_is_upward {f : Addr} {fd : FuncData} (F : Fun Γ.K "is_upward" "is_upward" s_is_upward f fd) (T : Tx Γ mg) : FnOk P w Γ.K mg base CX0 1 f fd ["family", "items"] (spG Γ 2 f_is_upward) := by
  refine fn_okG (k := 0) (A := [2, 3, 4]) (body := b_is_upward) F sc_is_upward rfl rfl rfl fun cdv Ar outer s H E hr => ?_
  unfold b_is_upward
  have e : defBody s_is_upward = [_, _, _] := rfl
  rw [e]
  refine sdss_cons ?_ ?_
  · exact (by first | exact sds_set 2 (by decide) rfl (by first | exact Or.inl rfl | exact Or.inr rfl) (sd_lc (own := [("member", 3)]) (blkOk_by (by exact rfl)) (sdi_seq (sd_var 0)) (fun _ _ _ _ _ => sdg_name 3 (by simp) rfl (by first | exact Or.inl rfl | exact Or.inr rfl) (by first | exact Or.inl rfl | exact Or.inr rfl)) .nil (fun _ _ _ _ _ => sd_frz (sd_callTy b_tuple rfl T.n_tuple (by decide +kernel) (.cons (sda_var 3) ns_Name (.nil))))) | exact sds_setLc 2 (by decide) rfl rfl (sw_true rfl rfl rfl (by decide +kernel)) (own := [("member", 3)]) (blkOk_by (by exact rfl)) (sdi_seq (sd_var 0)) (fun _ _ _ _ _ => sdg_name 3 (by simp) rfl (by first | exact Or.inl rfl | exact Or.inr rfl) (by first | exact Or.inl rfl | exact Or.inr rfl)) .nil (fun _ _ _ _ _ => sd_frz (sd_callTy b_tuple rfl T.n_tuple (by decide +kernel) (.cons (sda_var 3) ns_Name (.nil)))))
  refine sdss_cons ?_ ?_
  · exact sds_for PassesOwn.never (sdi_seq (sd_var 2)) (sdg_name 3 (by decide) rfl (by first | exact Or.inl rfl | exact Or.inr rfl) (by first | exact Or.inl rfl | exact Or.inr rfl))
        (sdss_one (sds_for PassesOwn.never (sdi_seq (sd_var 1)) (sdg_name 4 (by decide) rfl (by first | exact Or.inl rfl | exact Or.inr rfl) (by first | exact Or.inl rfl | exact Or.inr rfl))
        (sdss_one (sds_if (SdW.t (sdw_and (sdt_cmp c_ni (sda_var 4) (sda_var 3)) (sdw_and1 (sdt_cmp c_ni (sda_ex (sd_callTy b_tuple rfl T.n_tuple (by decide +kernel) (.cons (sda_ex (sd_callB b_sorted rfl T.n_sorted (by decide +kernel) (.cons (sda_ex (sd_starE (sd_var 3) (sd_var 4) ns_Name)) ns_List (.nil)))) ns_Call (.nil)))) (sda_var 2))))) (sdss_one (sds_ret (sd_bl))) (sdss_nil)))))
  refine sdss_one ?_
  exact sds_ret (sd_bl)

end
end K

set_option maxHeartbeats 4000000
namespace K
open PySem L2 G
noncomputable section
variable {Γ : Gam} {P : Program} {w : World} {mg : Str → Option Value} {base : Heap}
theorem d_law_bag {f : Addr} {fd : FuncData} (F : Fun Γ.K "_law_bag" "_law_bag" s_law_bag f fd) (T : Tx Γ mg) : FnOk P w Γ.K mg base CX0 1 f fd ["_law_script", "_law_at"] (spG Γ 2 f_law_bag) := by
  refine fn_okG (k := 0) (A := [2, 3]) (body := b_law_bag) F sc_law_bag rfl rfl rfl fun cdv Ar outer s H E hr => ?_
  unfold b_law_bag
  have e : defBody s_law_bag = [_, _, _] := rfl
  rw [e]
  refine sdss_cons ?_ ?_
  · exact sds_set 2 (by decide) rfl (by first | exact Or.inl rfl | exact Or.inr rfl) (sd_if (sdt_cmp c_lt (sda_var 1) (sda_ex (sd_callB b_len rfl T.n_len (by decide +kernel) (.cons (sda_var 0) ns_Name (.nil))))) (sd_ix (sda_var 0) (sda_var 1)) (sd_int))
  refine sdss_cons ?_ ?_
  · exact sds_set 3 (by decide) rfl (by first | exact Or.inl rfl | exact Or.inr rfl) (sd_if (sdt_cmp c_ge (sda_ex (sd_callB b_abs rfl T.n_abs (by decide +kernel) (.cons (sda_var 2) ns_Name (.nil)))) (sda_ex (sd_pow (sda_ex (sd_int)) (sda_ex (sd_int))))) (sd_callB b_abs rfl T.n_abs (by decide +kernel) (.cons (sda_var 2) ns_Name (.nil))) (sd_int))
  refine sdss_one ?_
  exact sds_ret (sd_lst (.cons (sda_ex (sd_var 3)) ns_Name (.cons (sda_ex (sd_frz (sd_add (sda_ex (sd_add (sda_ex (sd_mul (sda_ex (sd_mod (sda_ex (sd_callTy b_int rfl T.n_int (by decide +kernel) (.cons (sda_var 2) ns_Name (.nil)))) (sda_ex (sd_int)))) (sda_ex (sd_int)))) (sda_ex (sd_mul (sda_ex (sd_int)) (sda_var 1))))) (sda_ex (sd_int))))) ns_BinOp (.cons (sda_ex (sd_int)) ns_Constant (.nil)))))

theorem d_law_take {f : Addr} {fd : FuncData} (F : Fun Γ.K "_law_take" "_law_take" s_law_take f fd) (T : Tx Γ mg) : FnOk P w Γ.K mg base CX0 1 f fd ["_law_bag_here", "_law_many"] (spG Γ 2 f_law_take) := by
  refine fn_okG (k := 0) (A := [2, 3]) (body := b_law_take) F sc_law_take rfl rfl rfl fun cdv Ar outer s H E hr => ?_
  unfold b_law_take
  have e : defBody s_law_take = [_, _, _, _, _] := rfl
  rw [e]
  refine sdss_cons ?_ ?_
  · exact sds_if (sdt_cmp c_gt (sda_ex (sd_ix (sda_var 0) (sda_ex (sd_int)))) (sda_ex (sd_int))) (sdss_cons (sds_set 2 (by decide) rfl (by first | exact Or.inl rfl | exact Or.inr rfl) (sd_mod (sda_ex (sd_callTy b_int rfl T.n_int (by decide +kernel) (.cons (sda_ex (sd_ix (sda_var 0) (sda_ex (sd_int)))) ns_Subscript (.nil)))) (sda_var 1)))
        (sdss_cons (sds_setIx 0 rfl (by first | exact Or.inl rfl | exact Or.inr (Or.inl rfl) | exact Or.inr (Or.inr rfl)) (sd_div (sda_ex (sd_ix (sda_var 0) (sda_ex (sd_int)))) (sda_var 1)) (sd_int))
        (sdss_one (sds_retMv 2)))) (sdss_nil)
  refine sdss_cons ?_ ?_
  · exact sds_setIx 0 rfl (by first | exact Or.inl rfl | exact Or.inr (Or.inl rfl) | exact Or.inr (Or.inr rfl)) (sd_frz (sd_add (sda_ex (sd_ix (sda_var 0) (sda_ex (sd_int)))) (sda_ex (sd_int)))) (sd_int)
  refine sdss_cons ?_ ?_
  · exact sds_set 3 (by decide) rfl (by first | exact Or.inl rfl | exact Or.inr rfl) (sd_mod (sda_ex (sd_callTy b_int rfl T.n_int (by decide +kernel) (.cons (sda_ex (sd_pow (sda_ex (sd_add (sda_ex (sd_ix (sda_var 0) (sda_ex (sd_int)))) (sda_ex (sd_mul (sda_ex (sd_int)) (sda_ex (sd_ix (sda_var 0) (sda_ex (sd_int)))))))) (sda_ex (sd_int)))) ns_BinOp (.nil)))) (sda_ex (sd_int)))
  refine sdss_cons ?_ ?_
  · exact sds_set 3 (by decide) rfl (by first | exact Or.inl rfl | exact Or.inr rfl) (sd_mod (sda_ex (sd_callTy b_int rfl T.n_int (by decide +kernel) (.cons (sda_ex (sd_pow (sda_ex (sd_add (sda_var 3) (sda_ex (sd_mul (sda_ex (sd_int)) (sda_ex (sd_ix (sda_var 0) (sda_ex (sd_int)))))))) (sda_ex (sd_int)))) ns_BinOp (.nil)))) (sda_ex (sd_int)))
  refine sdss_one ?_
  exact sds_ret (sd_mod (sda_ex (sd_callTy b_int rfl T.n_int (by decide +kernel) (.cons (sda_ex (sd_div (sda_var 3) (sda_ex (sd_int)))) ns_BinOp (.nil)))) (sda_var 1))

theorem d_law_items {f : Addr} {fd : FuncData} (F : Fun Γ.K "_law_items" "_law_items" s_law_items f fd) (T : Tx Γ mg) (C_law_take : Ca Γ P w mg base "_law_take" 2 f_law_take 1) : FnOk P w Γ.K mg base CX0 2 f fd ["_law_bag_here", "_law_many"] (spG Γ 2 f_law_items) := by
  refine fn_okG (k := 1) (A := [2, 3, 4, 5]) (body := b_law_items) F sc_law_items rfl rfl rfl fun cdv Ar outer s H E hr => ?_
  unfold b_law_items
  have e : defBody s_law_items = [_, _, _] := rfl
  rw [e]
  refine sdss_cons ?_ ?_
  · exact sds_set 2 (by decide) rfl (by first | exact Or.inl rfl | exact Or.inr rfl) (sd_lst (.nil))
  refine sdss_cons ?_ ?_
  · exact sds_for PassesOwn.never (sdi_range rfl T.n_range (sd_var 1) (fun _ => rfl)) (sdg_name 3 (by decide) rfl (by first | exact Or.inl rfl | exact Or.inr rfl) (by first | exact Or.inl rfl | exact Or.inr rfl))
        (sdss_cons (sds_set 4 (by decide) rfl (by first | exact Or.inl rfl | exact Or.inr rfl) (sd_sub (sda_ex (sd_call (Ca.df rfl C_law_take hr (by decide)) rfl (.cons (sda_var 0) ns_Name (.cons (sda_ex (sd_ix (sda_ex (sd_lst (.cons (sda_ex (sd_int)) ns_Constant (.cons (sda_ex (sd_int)) ns_Constant (.cons (sda_ex (sd_pow (sda_ex (sd_int)) (sda_ex (sd_int)))) ns_BinOp (.nil)))))) (sda_ex (sd_call (Ca.df rfl C_law_take hr (by decide)) rfl (.cons (sda_var 0) ns_Name (.cons (sda_ex (sd_int)) ns_Constant (.nil))))))) ns_Subscript (.nil))))) (sda_ex (sd_ix (sda_ex (sd_lst (.cons (sda_ex (sd_int)) ns_Constant (.cons (sda_ex (sd_int)) ns_Constant (.cons (sda_ex (sd_pow (sda_ex (sd_int)) (sda_ex (sd_int)))) ns_BinOp (.nil)))))) (sda_ex (sd_call (Ca.df rfl C_law_take hr (by decide)) rfl (.cons (sda_var 0) ns_Name (.cons (sda_ex (sd_int)) ns_Constant (.nil)))))))))
        (sdss_cons (sds_for PassesOwn.never (sdi_range rfl T.n_range (sd_var 1) (fun _ => rfl)) (sdg_name 5 (by decide) rfl (by first | exact Or.inl rfl | exact Or.inr rfl) (by first | exact Or.inl rfl | exact Or.inr rfl))
        (sdss_one (sds_if (sdt_cmp c_in (sda_var 4) (sda_var 2)) (sdss_one (sds_set 4 (by decide) rfl (by first | exact Or.inl rfl | exact Or.inr rfl) (sd_add (sda_var 4) (sda_ex (sd_int))))) (sdss_nil))))
        (sdss_one (sds_expr (sd_mut 2 PySem.F.slot_list_append PySem.F.type_list_append mt_append uAppend_ok rfl (by first | exact Or.inl rfl | exact Or.inr (Or.inl rfl) | exact Or.inr (Or.inr rfl)) (.cons (sda_ex (sd_var 4)) (fun _ => rfl) (.nil)))))))
  refine sdss_one ?_
  exact sds_ret (sd_callB b_sorted rfl T.n_sorted (by decide +kernel) (.cons (sda_var 2) ns_Name (.nil)))

theorem d_law_parts {f : Addr} {fd : FuncData} (F : Fun Γ.K "_law_parts" "_law_parts" s_law_parts f fd) (T : Tx Γ mg) : FnOk P w Γ.K mg base CX0 1 f fd ["_law_items_here"] (spG Γ 1 f_law_parts) := by
  refine fn_okG (k := 0) (A := [1, 2]) (body := b_law_parts) F sc_law_parts rfl rfl rfl fun cdv Ar outer s H E hr => ?_
  unfold b_law_parts
  have e : defBody s_law_parts = [_, _, _] := rfl
  rw [e]
  refine sdss_cons ?_ ?_
  · exact sds_set 1 (by decide) rfl (by first | exact Or.inl rfl | exact Or.inr rfl) (sd_lst (.cons (sda_ex (sd_tup (.nil))) ns_Tuple (.nil)))
  refine sdss_cons ?_ ?_
  · exact sds_for PassesOwn.never (sdi_seq (sd_var 0)) (sdg_name 2 (by decide) rfl (by first | exact Or.inl rfl | exact Or.inr rfl) (by first | exact Or.inl rfl | exact Or.inr rfl))
        (sdss_one (sds_set 1 (by decide) rfl (by first | exact Or.inl rfl | exact Or.inr rfl) (sd_add (sda_var 1) (sda_ex (sd_lc (own := [("_law_part", 3)]) (blkOk_by (by exact rfl)) (sdi_seq (sd_var 1)) (fun _ _ _ _ _ => sdg_name 3 (by simp) rfl (by first | exact Or.inl rfl | exact Or.inr rfl) (by first | exact Or.inl rfl | exact Or.inr rfl)) .nil (fun _ _ _ _ _ => sd_frz (sd_add (sda_var 3) (sda_ex (sd_tup (.cons (sda_ex (sd_var 2)) ns_Name (.nil)))))))))))
  refine sdss_one ?_
  exact sds_ret (sd_lc (own := [("_law_size", 4), ("_law_part", 3)]) (blkOk_by (by exact rfl)) (sdi_seq (sd_frz (sd_sortD rfl T.n_sorted (sda_ex (sd_lc (own := [("_law_part", 3)]) (blkOk_by (by exact rfl)) (sdi_seq (sd_var 1)) (fun _ _ _ _ _ => sdg_name 3 (by simp) rfl (by first | exact Or.inl rfl | exact Or.inr rfl) (by first | exact Or.inl rfl | exact Or.inr rfl)) .nil (fun _ _ _ _ _ => sd_tup (.cons (sda_ex (sd_frz (sd_callB b_len rfl T.n_len (by decide +kernel) (.cons (sda_var 3) ns_Name (.nil))))) ns_Call (.cons (sda_ex (sd_var 3)) ns_Name (.nil)))))) (fun _ => rfl)))) (fun _ _ _ _ _ => sdg_tup (.cons (sdg_name 4 (by simp) rfl (by first | exact Or.inl rfl | exact Or.inr rfl) (by first | exact Or.inl rfl | exact Or.inr rfl)) rfl (.cons (sdg_name 3 (by simp) rfl (by first | exact Or.inl rfl | exact Or.inr rfl) (by first | exact Or.inl rfl | exact Or.inr rfl)) rfl (.nil))) rfl rfl) .nil (fun _ _ _ _ _ => sd_var 3))

end
end K

set_option maxHeartbeats 4000000
namespace K
open PySem L2 G
noncomputable section
variable {Γ : Gam} {P : Program} {w : World} {mg : Str → Option Value} {base : Heap}
theorem d_law_inside {f : Addr} {fd : FuncData} (F : Fun Γ.K "_law_inside" "_law_inside" s_law_inside f fd) (T : Tx Γ mg) : FnOk P w Γ.K mg base CX0 1 f fd ["_law_part", "_law_whole"] (spG Γ 2 f_law_inside) := by
  refine fn_okG (k := 0) (A := []) (body := b_law_inside) F sc_law_inside rfl rfl rfl fun cdv Ar outer s H E hr => ?_
  unfold b_law_inside
  have e : defBody s_law_inside = [_] := rfl
  rw [e]
  refine sdss_one ?_
  exact sds_ret (sd_cmp c_eq (sda_ex (sd_lc (own := [("_law_item", 2)]) (blkOk_by (by exact rfl)) (sdi_seq (sd_var 0)) (fun _ _ _ _ _ => sdg_name 2 (by simp) rfl (by first | exact Or.inl rfl | exact Or.inr rfl) (by first | exact Or.inl rfl | exact Or.inr rfl)) (.one fun _ _ _ _ _ => sdt_cmp c_ni (sda_var 2) (sda_var 1)) (fun _ _ _ _ _ => sd_var 2))) (sda_ex (sd_lst (.nil))))

theorem d_law_least {f : Addr} {fd : FuncData} (F : Fun Γ.K "_law_least" "_law_least" s_law_least f fd) (T : Tx Γ mg) (C_law_inside : Ca Γ P w mg base "_law_inside" 2 f_law_inside 1) : FnOk P w Γ.K mg base CX0 2 f fd ["_law_family_here"] (spG Γ 1 f_law_least) := by
  refine fn_okG (k := 1) (A := [1]) (body := b_law_least) F sc_law_least rfl rfl rfl fun cdv Ar outer s H E hr => ?_
  unfold b_law_least
  have e : defBody s_law_least = [_, _] := rfl
  rw [e]
  refine sdss_cons ?_ ?_
  · exact (by first | exact sds_set 1 (by decide) rfl (by first | exact Or.inl rfl | exact Or.inr rfl) (sd_lc (own := [("_law_one", 2)]) (blkOk_by (by exact rfl)) (sdi_seq (sd_var 0)) (fun _ _ _ _ _ => sdg_name 2 (by simp) rfl (by first | exact Or.inl rfl | exact Or.inr rfl) (by first | exact Or.inl rfl | exact Or.inr rfl)) (.one fun _ _ _ _ _ => sdt_cmp c_eq (sda_ex (sd_lc (own := [("_law_other", 3)]) (blkOk_by (by exact rfl)) (sdi_seq (sd_var 0)) (fun _ _ _ _ _ => sdg_name 3 (by simp) rfl (by first | exact Or.inl rfl | exact Or.inr rfl) (by first | exact Or.inl rfl | exact Or.inr rfl)) (.one fun _ _ _ _ _ => SdW.t (sdw_and (sdt_cmp c_ne (sda_var 3) (sda_var 2)) (sdw_and1 (sdt_tru (sda_ex (sd_call (Ca.df rfl C_law_inside hr (by decide)) rfl (.cons (sda_var 3) ns_Name (.cons (sda_var 2) ns_Name (.nil))))))))) (fun _ _ _ _ _ => sd_var 3))) (sda_ex (sd_lst (.nil)))) (fun _ _ _ _ _ => sd_var 2)) | exact sds_setLc 1 (by decide) rfl rfl (sw_true rfl rfl rfl (by decide +kernel)) (own := [("_law_one", 2)]) (blkOk_by (by exact rfl)) (sdi_seq (sd_var 0)) (fun _ _ _ _ _ => sdg_name 2 (by simp) rfl (by first | exact Or.inl rfl | exact Or.inr rfl) (by first | exact Or.inl rfl | exact Or.inr rfl)) (.one fun _ _ _ _ _ => sdt_cmp c_eq (sda_ex (sd_lc (own := [("_law_other", 3)]) (blkOk_by (by exact rfl)) (sdi_seq (sd_var 0)) (fun _ _ _ _ _ => sdg_name 3 (by simp) rfl (by first | exact Or.inl rfl | exact Or.inr rfl) (by first | exact Or.inl rfl | exact Or.inr rfl)) (.one fun _ _ _ _ _ => SdW.t (sdw_and (sdt_cmp c_ne (sda_var 3) (sda_var 2)) (sdw_and1 (sdt_tru (sda_ex (sd_call (Ca.df rfl C_law_inside hr (by decide)) rfl (.cons (sda_var 3) ns_Name (.cons (sda_var 2) ns_Name (.nil))))))))) (fun _ _ _ _ _ => sd_var 3))) (sda_ex (sd_lst (.nil)))) (fun _ _ _ _ _ => sd_var 2))
  refine sdss_one ?_
  exact sds_ret (sd_lc (own := [("_law_size", 4), ("_law_part", 5)]) (blkOk_by (by exact rfl)) (sdi_seq (sd_frz (sd_sortD rfl T.n_sorted (sda_ex (sd_lc (own := [("_law_part", 5)]) (blkOk_by (by exact rfl)) (sdi_seq (sd_var 1)) (fun _ _ _ _ _ => sdg_name 5 (by simp) rfl (by first | exact Or.inl rfl | exact Or.inr rfl) (by first | exact Or.inl rfl | exact Or.inr rfl)) .nil (fun _ _ _ _ _ => sd_tup (.cons (sda_ex (sd_frz (sd_callB b_len rfl T.n_len (by decide +kernel) (.cons (sda_var 5) ns_Name (.nil))))) ns_Call (.cons (sda_ex (sd_var 5)) ns_Name (.nil)))))) (fun _ => rfl)))) (fun _ _ _ _ _ => sdg_tup (.cons (sdg_name 4 (by simp) rfl (by first | exact Or.inl rfl | exact Or.inr rfl) (by first | exact Or.inl rfl | exact Or.inr rfl)) rfl (.cons (sdg_name 5 (by simp) rfl (by first | exact Or.inl rfl | exact Or.inr rfl) (by first | exact Or.inl rfl | exact Or.inr rfl)) rfl (.nil))) rfl rfl) .nil (fun _ _ _ _ _ => sd_var 5))

theorem d_law_meets {f : Addr} {fd : FuncData} (F : Fun Γ.K "_law_meets" "_law_meets" s_law_meets f fd) (T : Tx Γ mg) : FnOk P w Γ.K mg base CX0 1 f fd ["_law_part", "_law_family_here"] (spG Γ 2 f_law_meets) := by
  refine fn_okG (k := 0) (A := []) (body := b_law_meets) F sc_law_meets rfl rfl rfl fun cdv Ar outer s H E hr => ?_
  unfold b_law_meets
  have e : defBody s_law_meets = [_] := rfl
  rw [e]
  refine sdss_one ?_
  exact sds_ret (sd_cmp c_eq (sda_ex (sd_lc (own := [("_law_one", 2)]) (blkOk_by (by exact rfl)) (sdi_seq (sd_var 1)) (fun _ _ _ _ _ => sdg_name 2 (by simp) rfl (by first | exact Or.inl rfl | exact Or.inr rfl) (by first | exact Or.inl rfl | exact Or.inr rfl)) (.one fun _ _ _ _ _ => sdt_cmp c_eq (sda_ex (sd_lc (own := [("_law_item", 3)]) (blkOk_by (by exact rfl)) (sdi_seq (sd_var 2)) (fun _ _ _ _ _ => sdg_name 3 (by simp) rfl (by first | exact Or.inl rfl | exact Or.inr rfl) (by first | exact Or.inl rfl | exact Or.inr rfl)) (.one fun _ _ _ _ _ => sdt_cmp c_in (sda_var 3) (sda_var 0)) (fun _ _ _ _ _ => sd_var 3))) (sda_ex (sd_lst (.nil)))) (fun _ _ _ _ _ => sd_var 2))) (sda_ex (sd_lst (.nil))))

theorem d_law_blockers {f : Addr} {fd : FuncData} (F : Fun Γ.K "_law_blockers" "_law_blockers" s_law_blockers f fd) (T : Tx Γ mg) (C_law_parts : Ca Γ P w mg base "_law_parts" 1 f_law_parts 1) (C_law_inside : Ca Γ P w mg base "_law_inside" 2 f_law_inside 1) (C_law_meets : Ca Γ P w mg base "_law_meets" 2 f_law_meets 1) : FnOk P w Γ.K mg base CX0 2 f fd ["_law_items_here", "_law_family_here"] (spG Γ 2 f_law_blockers) := by
  refine fn_okG (k := 1) (A := [2, 3]) (body := b_law_blockers) F sc_law_blockers rfl rfl rfl fun cdv Ar outer s H E hr => ?_
  unfold b_law_blockers
  have e : defBody s_law_blockers = [_, _, _] := rfl
  rw [e]
  refine sdss_cons ?_ ?_
  · exact sds_set 2 (by decide) rfl (by first | exact Or.inl rfl | exact Or.inr rfl) (sd_lst (.nil))
  refine sdss_cons ?_ ?_
  · exact sds_for PassesOwn.never (sdi_seq (sd_frz (sd_call (Ca.df rfl C_law_parts hr (by decide)) rfl (.cons (sda_var 0) ns_Name (.nil))))) (sdg_name 3 (by decide) rfl (by first | exact Or.inl rfl | exact Or.inr rfl) (by first | exact Or.inl rfl | exact Or.inr rfl))
        (sdss_one (sds_if (SdW.t (sdw_and (sdt_tru (sda_ex (sd_call (Ca.df rfl C_law_meets hr (by decide)) rfl (.cons (sda_var 3) ns_Name (.cons (sda_var 1) ns_Name (.nil)))))) (sdw_and1 (sdt_cmp c_eq (sda_ex (sd_lendN 2 (sd_lc (own := [("_law_other", 4)]) (blkOk_by (by exact rfl)) (sdi_seq (sd_var 2)) (fun _ _ _ _ _ => sdg_name 4 (by simp) rfl (by first | exact Or.inl rfl | exact Or.inr rfl) (by first | exact Or.inl rfl | exact Or.inr rfl)) (.one fun _ _ _ _ _ => sdt_tru (sda_ex (sd_call (Ca.df rfl C_law_inside hr (by decide)) rfl (.cons (sda_var 4) ns_Name (.cons (sda_var 3) ns_Name (.nil)))))) (fun _ _ _ _ _ => sd_var 4)))) (sda_ex (sd_lst (.nil))))))) (sdss_one (sds_expr (sd_mut 2 PySem.F.slot_list_append PySem.F.type_list_append mt_append uAppend_ok rfl (by first | exact Or.inl rfl | exact Or.inr (Or.inl rfl) | exact Or.inr (Or.inr rfl)) (.cons (sda_ex (sd_var 3)) (fun _ => rfl) (.nil))))) (sdss_nil)))
  refine sdss_one ?_
  exact sds_retMv 2

theorem d_law_upward {f : Addr} {fd : FuncData} (F : Fun Γ.K "_law_upward" "_law_upward" s_law_upward f fd) (T : Tx Γ mg) : FnOk P w Γ.K mg base CX0 1 f fd ["_law_family_here", "_law_items_here"] (spG Γ 2 f_law_upward) := by
  refine fn_okG (k := 0) (A := [2, 3]) (body := b_law_upward) F sc_law_upward rfl rfl rfl fun cdv Ar outer s H E hr => ?_
  unfold b_law_upward
  have e : defBody s_law_upward = [_, _] := rfl
  rw [e]
  refine sdss_cons ?_ ?_
  · exact sds_for PassesOwn.never (sdi_seq (sd_var 0)) (sdg_name 2 (by decide) rfl (by first | exact Or.inl rfl | exact Or.inr rfl) (by first | exact Or.inl rfl | exact Or.inr rfl))
        (sdss_one (sds_for PassesOwn.never (sdi_seq (sd_var 1)) (sdg_name 3 (by decide) rfl (by first | exact Or.inl rfl | exact Or.inr rfl) (by first | exact Or.inl rfl | exact Or.inr rfl))
        (sdss_one (sds_if (SdW.t (sdw_and (sdt_cmp c_ni (sda_var 3) (sda_var 2)) (sdw_and1 (sdt_cmp c_ni (sda_ex (sd_callTy b_tuple rfl T.n_tuple (by decide +kernel) (.cons (sda_ex (sd_callB b_sorted rfl T.n_sorted (by decide +kernel) (.cons (sda_ex (sd_add (sda_ex (sd_callTy b_list rfl T.n_list (by decide +kernel) (.cons (sda_var 2) ns_Name (.nil)))) (sda_ex (sd_lst (.cons (sda_ex (sd_var 3)) ns_Name (.nil)))))) ns_BinOp (.nil)))) ns_Call (.nil)))) (sda_var 0))))) (sdss_one (sds_ret (sd_bl))) (sdss_nil)))))
  refine sdss_one ?_
  exact sds_ret (sd_bl)

theorem d_law_family {f : Addr} {fd : FuncData} (F : Fun Γ.K "_law_family" "_law_family" s_law_family f fd) (T : Tx Γ mg) (C_law_parts : Ca Γ P w mg base "_law_parts" 1 f_law_parts 1) (C_law_take : Ca Γ P w mg base "_law_take" 2 f_law_take 1) (C_law_inside : Ca Γ P w mg base "_law_inside" 2 f_law_inside 1) : FnOk P w Γ.K mg base CX0 2 f fd ["_law_bag_here", "_law_items_here"] (spG Γ 2 f_law_family) := by
  refine fn_okG (k := 1) (A := [2, 3, 4, 5, 7]) (body := b_law_family) F sc_law_family rfl rfl rfl fun cdv Ar outer s H E hr => ?_
  unfold b_law_family
  have e : defBody s_law_family = [_, _, _, _, _, _] := rfl
  rw [e]
  refine sdss_cons ?_ ?_
  · exact (by first | exact sds_par (i := 2) (j := 3) (by decide) (by decide) rfl rfl (by decide) rfl rfl (sd_call (Ca.df rfl C_law_parts hr (by decide)) rfl (.cons (sda_var 1) ns_Name (.nil))) (fun _ => rfl) (sd_lst (.nil)) (fun _ => rfl) rfl | exact sds_parC (i := 2) (j := 3) (by decide) (by decide) rfl rfl (by decide) (by first | exact Or.inl rfl | exact Or.inr rfl) (by first | exact Or.inl rfl | exact Or.inr rfl) (by first | exact .inl rfl | exact .inr rfl) (by first | exact .inl rfl | exact .inr rfl) (sd_call (Ca.df rfl C_law_parts hr (by decide)) rfl (.cons (sda_var 1) ns_Name (.nil))) (fun _ => rfl) (sd_lst (.nil)) (fun _ => rfl))
  refine sdss_cons ?_ ?_
  · exact sds_for PassesOwn.never (sdi_range rfl T.n_range (sd_call (Ca.df rfl C_law_take hr (by decide)) rfl (.cons (sda_var 0) ns_Name (.cons (sda_ex (sd_int)) ns_Constant (.nil)))) (fun _ => rfl)) (sdg_name 4 (by decide) rfl (by first | exact Or.inl rfl | exact Or.inr rfl) (by first | exact Or.inl rfl | exact Or.inr rfl))
        (sdss_cons (sds_set 5 (by decide) rfl (by first | exact Or.inl rfl | exact Or.inr rfl) (sd_ix (sda_var 2) (sda_ex (sd_call (Ca.df rfl C_law_take hr (by decide)) rfl (.cons (sda_var 0) ns_Name (.cons (sda_ex (sd_callB b_len rfl T.n_len (by decide +kernel) (.cons (sda_var 2) ns_Name (.nil)))) ns_Call (.nil)))))))
        (sdss_cons (sds_if (SdW.t (sdw_and (sdt_cmp c_gt (sda_ex (sd_call (Ca.df rfl C_law_take hr (by decide)) rfl (.cons (sda_var 0) ns_Name (.cons (sda_ex (sd_int)) ns_Constant (.nil))))) (sda_ex (sd_int))) (sdw_and1 (sdt_cmp c_eq (sda_ex (sd_callB b_len rfl T.n_len (by decide +kernel) (.cons (sda_var 5) ns_Name (.nil)))) (sda_ex (sd_int)))))) (sdss_one (sds_set 5 (by decide) rfl (by first | exact Or.inl rfl | exact Or.inr rfl) (sd_ix (sda_var 2) (sda_ex (sd_neg (sda_ex (sd_int))))))) (sdss_nil))
        (sdss_one (sds_if (sdt_cmp c_ni (sda_var 5) (sda_var 3)) (sdss_one (sds_expr (sd_mut 3 PySem.F.slot_list_append PySem.F.type_list_append mt_append uAppend_ok rfl (by first | exact Or.inl rfl | exact Or.inr (Or.inl rfl) | exact Or.inr (Or.inr rfl)) (.cons (sda_ex (sd_var 5)) (fun _ => rfl) (.nil))))) (sdss_nil)))))
  refine sdss_cons ?_ ?_
  · exact sds_if (sdt_cmp c_eq (sda_ex (sd_call (Ca.df rfl C_law_take hr (by decide)) rfl (.cons (sda_var 0) ns_Name (.cons (sda_ex (sd_int)) ns_Constant (.nil))))) (sda_ex (sd_int))) (sdss_one ((by first | exact sds_set 3 (by decide) rfl (by first | exact Or.inl rfl | exact Or.inr rfl) (sd_lc (own := [("_law_part", 6)]) (blkOk_by (by exact rfl)) (sdi_seq (sd_var 2)) (fun _ _ _ _ _ => sdg_name 6 (by simp) rfl (by first | exact Or.inl rfl | exact Or.inr rfl) (by first | exact Or.inl rfl | exact Or.inr rfl)) (.one fun _ _ _ _ _ => sdt_cmp c_ne (sda_ex (sd_lc (own := [("_law_one", 5)]) (blkOk_by (by exact rfl)) (sdi_seq (sd_var 3)) (fun _ _ _ _ _ => sdg_name 5 (by simp) rfl (by first | exact Or.inl rfl | exact Or.inr rfl) (by first | exact Or.inl rfl | exact Or.inr rfl)) (.one fun _ _ _ _ _ => sdt_tru (sda_ex (sd_call (Ca.df rfl C_law_inside hr (by decide)) rfl (.cons (sda_var 5) ns_Name (.cons (sda_var 6) ns_Name (.nil)))))) (fun _ _ _ _ _ => sd_var 5))) (sda_ex (sd_lst (.nil)))) (fun _ _ _ _ _ => sd_var 6)) | exact sds_setLc 3 (by decide) rfl rfl (sw_true rfl rfl rfl (by decide +kernel)) (own := [("_law_part", 6)]) (blkOk_by (by exact rfl)) (sdi_seq (sd_var 2)) (fun _ _ _ _ _ => sdg_name 6 (by simp) rfl (by first | exact Or.inl rfl | exact Or.inr rfl) (by first | exact Or.inl rfl | exact Or.inr rfl)) (.one fun _ _ _ _ _ => sdt_cmp c_ne (sda_ex (sd_lc (own := [("_law_one", 5)]) (blkOk_by (by exact rfl)) (sdi_seq (sd_var 3)) (fun _ _ _ _ _ => sdg_name 5 (by simp) rfl (by first | exact Or.inl rfl | exact Or.inr rfl) (by first | exact Or.inl rfl | exact Or.inr rfl)) (.one fun _ _ _ _ _ => sdt_tru (sda_ex (sd_call (Ca.df rfl C_law_inside hr (by decide)) rfl (.cons (sda_var 5) ns_Name (.cons (sda_var 6) ns_Name (.nil)))))) (fun _ _ _ _ _ => sd_var 5))) (sda_ex (sd_lst (.nil)))) (fun _ _ _ _ _ => sd_var 6)))) (sdss_nil)
  refine sdss_cons ?_ ?_
  · exact sds_set 7 (by decide) rfl (by first | exact Or.inl rfl | exact Or.inr rfl) (sd_lst (.nil))
  refine sdss_cons ?_ ?_
  · exact sds_for PassesOwn.never (sdi_range rfl T.n_range (sd_callB b_len rfl T.n_len (by decide +kernel) (.cons (sda_var 3) ns_Name (.nil))) (fun _ => rfl)) (sdg_name 4 (by decide) rfl (by first | exact Or.inl rfl | exact Or.inr rfl) (by first | exact Or.inl rfl | exact Or.inr rfl))
        (sdss_one (sds_expr (sd_mut 7 PySem.F.slot_list_append PySem.F.type_list_append mt_append uAppend_ok rfl (by first | exact Or.inl rfl | exact Or.inr (Or.inl rfl) | exact Or.inr (Or.inr rfl)) (.cons (sda_ex (sd_frz (sd_mut 3 PySem.F.slot_list_pop PySem.F.type_list_pop mt_popAll uPop_ok rfl (by first | exact Or.inl rfl | exact Or.inr (Or.inl rfl) | exact Or.inr (Or.inr rfl)) (.cons (sda_ex (sd_frz (sd_call (Ca.df rfl C_law_take hr (by decide)) rfl (.cons (sda_var 0) ns_Name (.cons (sda_ex (sd_callB b_len rfl T.n_len (by decide +kernel) (.cons (sda_var 3) ns_Name (.nil)))) ns_Call (.nil)))))) (fun _ => rfl) (.nil))))) (fun _ => rfl) (.nil)))))
  refine sdss_one ?_
  exact sds_retMv 7

end
end K

set_option maxHeartbeats 4000000
namespace K
open PySem L2 G
noncomputable section
variable {Γ : Gam} {P : Program} {w : World} {mg : Str → Option Value} {base : Heap}
theorem d_law_right {f : Addr} {fd : FuncData} (F : Fun Γ.K "_law_right" "_law_right" s_law_right f fd) (T : Tx Γ mg) (C_least_of : Ca Γ P w mg base "least_of" 1 f_least_of 4) (C_blockers : Ca Γ P w mg base "blockers" 1 f_blockers 5) (C_law_blockers : Ca Γ P w mg base "_law_blockers" 2 f_law_blockers 2) (C_law_least : Ca Γ P w mg base "_law_least" 1 f_law_least 2) (C_is_upward : Ca Γ P w mg base "is_upward" 2 f_is_upward 1) (C_law_upward : Ca Γ P w mg base "_law_upward" 2 f_law_upward 1) : FnG P w Γ.K mg base (L2.CX P w) 6 f fd ["_law_items_here", "_law_family_here"] (spX Γ xc0 2 g_law_right) := by
  refine fn_okXG (k := 5) (A := [2, 3, 4]) (q := b_law_right) F sc_law_right rfl rfl rfl fun cdv Ar outer s H E gd hr tk po => ?_
  unfold b_law_right
  have e : defBody s_law_right = [_, _, _, _, _, _, _, _] := rfl
  rw [e]
  refine xss_cons ?_ ?_
  · exact xs_of (sds_set 2 (by decide) rfl (by first | exact Or.inl rfl | exact Or.inr rfl) (sd_callTy b_list rfl T.n_list (by decide +kernel) (.cons (sda_var 1) ns_Name (.nil))))
  refine xss_cons ?_ ?_
  · exact xs_of ((by first | exact sds_par (i := 3) (j := 4) (by decide) (by decide) rfl rfl (by decide) rfl rfl (sd_call (Ca.df rfl C_least_of hr (by decide)) rfl (.cons (sda_var 1) ns_Name (.nil))) (fun _ => rfl) (sd_call (Ca.df rfl C_blockers hr (by decide)) rfl (.cons (sda_var 1) ns_Name (.nil))) (fun _ => rfl) rfl | exact sds_parC (i := 3) (j := 4) (by decide) (by decide) rfl rfl (by decide) (by first | exact Or.inl rfl | exact Or.inr rfl) (by first | exact Or.inl rfl | exact Or.inr rfl) (by first | exact .inl rfl | exact .inr rfl) (by first | exact .inl rfl | exact .inr rfl) (sd_call (Ca.df rfl C_least_of hr (by decide)) rfl (.cons (sda_var 1) ns_Name (.nil))) (fun _ => rfl) (sd_call (Ca.df rfl C_blockers hr (by decide)) rfl (.cons (sda_var 1) ns_Name (.nil))) (fun _ => rfl)))
  refine xss_cons ?_ ?_
  · exact xs_of (sds_if (SdW.t (sdw_or (sdt_cmp c_ne (sda_ex (sd_callB (b_repr gd) rfl T.n_repr (by decide +kernel) (.cons (sda_var 3) ns_Name (.nil)))) (sda_ex (sd_callB (b_repr gd) rfl T.n_repr (by decide +kernel) (.cons (sda_ex (sd_call (Ca.df rfl C_law_least hr (by decide)) rfl (.cons (sda_var 2) ns_Name (.nil)))) ns_Call (.nil))))) (sdw_or1 (sdt_cmp c_ne (sda_ex (sd_callB (b_repr gd) rfl T.n_repr (by decide +kernel) (.cons (sda_var 4) ns_Name (.nil)))) (sda_ex (sd_callB (b_repr gd) rfl T.n_repr (by decide +kernel) (.cons (sda_ex (sd_call (Ca.df rfl C_law_blockers hr (by decide)) rfl (.cons (sda_var 0) ns_Name (.cons (sda_var 2) ns_Name (.nil))))) ns_Call (.nil)))))))) (sdss_one (sds_ret (sd_bl))) (sdss_nil))
  refine xss_cons ?_ ?_
  · exact xs_of (sds_if (SdW.t (sdw_or (sdt_cmp c_ne (sda_ex (sd_callB (b_repr gd) rfl T.n_repr (by decide +kernel) (.cons (sda_ex (sd_call (Ca.df rfl C_is_upward hr (by decide)) rfl (.cons (sda_var 1) ns_Name (.cons (sda_var 0) ns_Name (.nil))))) ns_Call (.nil)))) (sda_ex (sd_callB (b_repr gd) rfl T.n_repr (by decide +kernel) (.cons (sda_ex (sd_call (Ca.df rfl C_law_upward hr (by decide)) rfl (.cons (sda_var 2) ns_Name (.cons (sda_var 0) ns_Name (.nil))))) ns_Call (.nil))))) (sdw_or1 (sdt_cmp c_ne (sda_var 1) (sda_var 2))))) (sdss_one (sds_ret (sd_bl))) (sdss_nil))
  refine xss_cons ?_ ?_
  · exact xs_of (sds_if (sdt_cmp c_ne (sda_ex (sd_callB (b_repr gd) rfl T.n_repr (by decide +kernel) (.cons (sda_ex (sd_call (Ca.df rfl C_blockers hr (by decide)) rfl (.cons (sda_var 4) ns_Name (.nil)))) ns_Call (.nil)))) (sda_ex (sd_callB (b_repr gd) rfl T.n_repr (by decide +kernel) (.cons (sda_var 3) ns_Name (.nil))))) (sdss_one (sds_ret (sd_bl))) (sdss_nil))
  refine xss_cons ?_ ?_
  · exact xs_of (sds_expr (sd_mut 3 PySem.F.slot_list_append PySem.F.type_list_append mt_append uAppend_ok rfl (by first | exact Or.inl rfl | exact Or.inr (Or.inl rfl) | exact Or.inr (Or.inr rfl)) (.cons (sda_ex (sd_tup (.nil))) (fun _ => rfl) (.nil))))
  refine xss_cons ?_ ?_
  · exact xs_of (sds_expr (sd_mut0 4 PySem.F.slot_list_clear PySem.F.type_list_clear mt_clear uClear_ok rfl (by first | exact Or.inl rfl | exact Or.inr (Or.inl rfl) | exact Or.inr (Or.inr rfl))))
  refine xss_one ?_
  exact xs_of (sds_ret (sd_and (sd_cmp c_eq (sda_ex (sd_callB (b_repr gd) rfl T.n_repr (by decide +kernel) (.cons (sda_ex (sd_call (Ca.df rfl C_least_of hr (by decide)) rfl (.cons (sda_var 1) ns_Name (.nil)))) ns_Call (.nil)))) (sda_ex (sd_callB (b_repr gd) rfl T.n_repr (by decide +kernel) (.cons (sda_ex (sd_call (Ca.df rfl C_law_least hr (by decide)) rfl (.cons (sda_var 2) ns_Name (.nil)))) ns_Call (.nil))))) (sd_one (sd_cmp c_eq (sda_ex (sd_callB (b_repr gd) rfl T.n_repr (by decide +kernel) (.cons (sda_ex (sd_call (Ca.df rfl C_blockers hr (by decide)) rfl (.cons (sda_var 1) ns_Name (.nil)))) ns_Call (.nil)))) (sda_ex (sd_callB (b_repr gd) rfl T.n_repr (by decide +kernel) (.cons (sda_ex (sd_call (Ca.df rfl C_law_blockers hr (by decide)) rfl (.cons (sda_var 0) ns_Name (.cons (sda_var 2) ns_Name (.nil))))) ns_Call (.nil))))))))

theorem d_law {f : Addr} {fd : FuncData} (F : Fun Γ.K "law" "law" s_law f fd) (T : Tx Γ mg) (C_law_bag : Ca Γ P w mg base "_law_bag" 2 f_law_bag 1) (C_law_items : Ca Γ P w mg base "_law_items" 2 f_law_items 2) (C_law_take : Ca Γ P w mg base "_law_take" 2 f_law_take 1) (G_subsets : CgX Γ P w mg base xc0 "subsets" 1 x_subsets [] 1) (C_law_parts : Ca Γ P w mg base "_law_parts" 1 f_law_parts 1) (C_law_family : Ca Γ P w mg base "_law_family" 2 f_law_family 2) (X_law_right : CaX Γ P w mg base xc0 "_law_right" 2 (g_law_right) 6) : FnG P w Γ.K mg base (L2.CX P w) 7 f fd ["_law_script"] (spX Γ xc0 1 g_law) := by
  refine fn_okXG (k := 6) (A := [1, 2, 3, 5]) (q := b_law) F sc_law rfl rfl rfl fun cdv Ar outer s H E gd hr tk po => ?_
  unfold b_law
  have e : defBody s_law = [_, _] := rfl
  rw [e]
  refine xss_cons ?_ ?_
  · exact xs_for po (sdxi_of (sdi_range rfl T.n_range (sd_callB b_max rfl T.n_max (by decide +kernel) (.cons (sda_ex (sd_int)) ns_Constant (.cons (sda_ex (sd_callB b_min rfl T.n_min (by decide +kernel) (.cons (sda_ex (sd_int)) ns_Constant (.cons (sda_ex (sd_callB b_len rfl T.n_len (by decide +kernel) (.cons (sda_var 0) ns_Name (.nil)))) ns_Call (.nil))))) ns_Call (.nil)))) (fun _ => rfl))) (sdg_name 1 (by decide) rfl (by first | exact Or.inl rfl | exact Or.inr rfl) (by first | exact Or.inl rfl | exact Or.inr rfl))
        (xss_cons (xs_of (sds_set 2 (by decide) rfl (by first | exact Or.inl rfl | exact Or.inr rfl) (sd_call (Ca.df rfl C_law_bag hr (by decide)) rfl (.cons (sda_var 0) ns_Name (.cons (sda_var 1) ns_Name (.nil))))))
        (xss_cons (xs_of (sds_set 3 (by decide) rfl (by first | exact Or.inl rfl | exact Or.inr rfl) (sd_callTy b_tuple rfl T.n_tuple (by decide +kernel) (.cons (sda_ex (sd_call (Ca.df rfl C_law_items hr (by decide)) rfl (.cons (sda_var 2) ns_Name (.cons (sda_ex (sd_if (sdt_cmp c_eq (sda_ex (sd_call (Ca.df rfl C_law_take hr (by decide)) rfl (.cons (sda_var 2) ns_Name (.cons (sda_ex (sd_int)) ns_Constant (.nil))))) (sda_ex (sd_int))) (sd_int) (sd_call (Ca.df rfl C_law_take hr (by decide)) rfl (.cons (sda_var 2) ns_Name (.cons (sda_ex (sd_int)) ns_Constant (.nil)))))) ns_IfExp (.nil))))) ns_Call (.nil)))))
        (xss_cons (xs_if (sdxt_cmp 0 c_ne (.cons (sdxa_ex (sdx_callB 0 (b_repr gd) rfl T.n_repr (by decide +kernel) (.cons (sdxa_ex (sdx_lcG (k := 1) (L := []) (i := 4) gd hr rfl (by decide) (sdxgen_call rfl G_subsets hr (by decide) rfl rfl (.cons (sdxa_var 3) ns_Name (.nil))) (blkOk_by (by exact rfl)) rfl (by decide +kernel) (fun _ _ _ _ _ => pg_name (by show List.Nodup (["_law_script", "_law_at", "_law_bag_here", "_law_items_here", "_law_part", "_law_family_here"] : List Str); decide +kernel) rfl (by first | exact Or.inl rfl | exact Or.inr rfl)) (fun _ _ _ _ _ => pe_var rfl (by first | exact Or.inl rfl | exact Or.inr (Or.inl rfl) | exact Or.inr (Or.inr rfl))))) (fun _ => rfl) (.nil)))) ns_Call (.cons (sdxa_ex (sdx_of (sd_callB (b_repr gd) rfl T.n_repr (by decide +kernel) (.cons (sda_ex (sd_call (Ca.df rfl C_law_parts hr (by decide)) rfl (.cons (sda_var 3) ns_Name (.nil)))) ns_Call (.nil))))) ns_Call (.nil)))) (xss_one (xs_of (sds_ret (sd_bl)))) (xss_nil))
        (xss_cons (xs_of (sds_set 5 (by decide) rfl (by first | exact Or.inl rfl | exact Or.inr rfl) (sd_call (Ca.df rfl C_law_family hr (by decide)) rfl (.cons (sda_var 2) ns_Name (.cons (sda_var 3) ns_Name (.nil))))))
        (xss_one (xs_if (SdXW.t (sdxw_or (sdxt_not (sdxt_tru 0 (sdxa_ex (sdx_call (CaX.df rfl X_law_right gd hr (by decide)) tk rfl (.cons (sdxa_var 3) ns_Name (.cons (sdxa_var 5) ns_Name (.nil))))) ns_Call)) (sdxw_or1 (sdxt_not (sdxt_tru 0 (sdxa_ex (sdx_call (CaX.df rfl X_law_right gd hr (by decide)) tk rfl (.cons (sdxa_var 3) ns_Name (.cons (sdxa_ex (sdx_of (sd_rev (sda_var 5)))) ns_Subscript (.nil))))) ns_Call))))) (xss_one (xs_of (sds_ret (sd_bl)))) (xss_nil)))))))
  refine xss_one ?_
  exact xs_of (sds_ret (sd_bl))

end
end K

set_option maxHeartbeats 4000000
namespace K
open PySem L2 G
/-- no classes -/
def gam (K : PySem.W.Frag) : Gam where
  K := K
  cls := fun _ => none
def LawTrue : Prop := ∀ (Γ : Gam), ∀ ns : List Int, ns.length ≤ 63 → g_law (Γ := Γ) [.scr ns] (fun r _ => r = .dat (.bl true)) fun _ _ => False
/-- a list of at most 63 ints comes in, True comes out -/
def spLaw (K : PySem.W.Frag) : Sp := fun vs H Q _ => ∃ (a : Addr) (ns : List Int), vs = [.ref a] ∧ SqL K H a (ns.map V.int) ∧ ns.length ≤ 63 ∧ ∀ H', Q (.bl true) H'
theorem spLaw_sp (hL : LawTrue) {K : PySem.W.Frag} {vs : List V} {H : Hp} {Q : VK} {E : XK} (h : spLaw K vs H Q E) : spX (gam K) xc0 1 g_law vs H Q E0 := by
  obtain ⟨a, ns, rfl, hS, hl, k⟩ := h
  refine ⟨[.scr ns], ⟨fun _ => False, fun _ _ => False, H⟩, _, _, hL (gam K) ns hl, rfl, rfl, ⟨rfl, fun i s hi => ?_, fun _ _ z => z, fun _ _ _ z => z.elim, fun _ z => z.elim, fun _ _ _ z => z⟩, fun r args' v w' Fr hk E' T' p' f' => ?_, fun _ _ _ _ z => z.elim⟩
  · match i, hi with
    | 0, hi =>
      cases hi
      refine .inr ⟨.ref a, rfl, ⟨a, rfl, ?_⟩, fun _ z => z⟩
      rcases hS with z | z
      · exact .inl ⟨fun q => q, z⟩
      · exact .inr fun H' => .inr z
    | n + 1, hi => cases hi
  · subst hk
    cases T'.bl
    exact k _
theorem all_mk (hL : LawTrue) {l : PySem.W.OpenLaw} {w : World} {K : PySem.W.Frag} {h : Heap} {mg : Str → Option Value} {fa : Addr} (X : K.In h) (G : h.Ns mainGlobals mg) (hfa : mg "law" = some (.ref fa))
    {gtold_key : Addr} {odtold_key antold_key : Option Addr} {sltold_key : Array (Option Value)} {octold_key kVtold_key dctold_key pmtold_key cdtold_key cttold_key : Value}
    {gsubsets : Addr} {odsubsets ansubsets : Option Addr} {slsubsets : Array (Option Value)} {ocsubsets kVsubsets dcsubsets pmsubsets cdsubsets ctsubsets : Value}
    {gis_part : Addr} {odis_part anis_part : Option Addr} {slis_part : Array (Option Value)} {ocis_part kVis_part dcis_part pmis_part cdis_part ctis_part : Value}
    {gleast_of : Addr} {odleast_of anleast_of : Option Addr} {slleast_of : Array (Option Value)} {ocleast_of kVleast_of dcleast_of pmleast_of cdleast_of ctleast_of : Value}
    {gshares : Addr} {odshares anshares : Option Addr} {slshares : Array (Option Value)} {ocshares kVshares dcshares pmshares cdshares ctshares : Value}
    {gblockers : Addr} {odblockers anblockers : Option Addr} {slblockers : Array (Option Value)} {ocblockers kVblockers dcblockers pmblockers cdblockers ctblockers : Value}
    {gis_upward : Addr} {odis_upward anis_upward : Option Addr} {slis_upward : Array (Option Value)} {ocis_upward kVis_upward dcis_upward pmis_upward cdis_upward ctis_upward : Value}
    {glaw_bag : Addr} {odlaw_bag anlaw_bag : Option Addr} {sllaw_bag : Array (Option Value)} {oclaw_bag kVlaw_bag dclaw_bag pmlaw_bag cdlaw_bag ctlaw_bag : Value}
    {glaw_take : Addr} {odlaw_take anlaw_take : Option Addr} {sllaw_take : Array (Option Value)} {oclaw_take kVlaw_take dclaw_take pmlaw_take cdlaw_take ctlaw_take : Value}
    {glaw_items : Addr} {odlaw_items anlaw_items : Option Addr} {sllaw_items : Array (Option Value)} {oclaw_items kVlaw_items dclaw_items pmlaw_items cdlaw_items ctlaw_items : Value}
    {glaw_parts : Addr} {odlaw_parts anlaw_parts : Option Addr} {sllaw_parts : Array (Option Value)} {oclaw_parts kVlaw_parts dclaw_parts pmlaw_parts cdlaw_parts ctlaw_parts : Value}
    {glaw_inside : Addr} {odlaw_inside anlaw_inside : Option Addr} {sllaw_inside : Array (Option Value)} {oclaw_inside kVlaw_inside dclaw_inside pmlaw_inside cdlaw_inside ctlaw_inside : Value}
    {glaw_least : Addr} {odlaw_least anlaw_least : Option Addr} {sllaw_least : Array (Option Value)} {oclaw_least kVlaw_least dclaw_least pmlaw_least cdlaw_least ctlaw_least : Value}
    {glaw_meets : Addr} {odlaw_meets anlaw_meets : Option Addr} {sllaw_meets : Array (Option Value)} {oclaw_meets kVlaw_meets dclaw_meets pmlaw_meets cdlaw_meets ctlaw_meets : Value}
    {glaw_blockers : Addr} {odlaw_blockers anlaw_blockers : Option Addr} {sllaw_blockers : Array (Option Value)} {oclaw_blockers kVlaw_blockers dclaw_blockers pmlaw_blockers cdlaw_blockers ctlaw_blockers : Value}
    {glaw_upward : Addr} {odlaw_upward anlaw_upward : Option Addr} {sllaw_upward : Array (Option Value)} {oclaw_upward kVlaw_upward dclaw_upward pmlaw_upward cdlaw_upward ctlaw_upward : Value}
    {glaw_family : Addr} {odlaw_family anlaw_family : Option Addr} {sllaw_family : Array (Option Value)} {oclaw_family kVlaw_family dclaw_family pmlaw_family cdlaw_family ctlaw_family : Value}
    {glaw_right : Addr} {odlaw_right anlaw_right : Option Addr} {sllaw_right : Array (Option Value)} {oclaw_right kVlaw_right dclaw_right pmlaw_right cdlaw_right ctlaw_right : Value}
    {glaw : Addr} {odlaw anlaw : Option Addr} {sllaw : Array (Option Value)} {oclaw kVlaw dclaw pmlaw cdlaw ctlaw : Value}
    (atold_key : PySem.W.nsIn K mainGlobals "told_key" = some (some (.ref gtold_key)))
    (ltold_key : K.lookup gtold_key = some ⟨octold_key, odtold_key, .func (PySem.W.fnOf "told_key" "told_key" (defArgs s_told_key) (defBody s_told_key) (defScope s_told_key) .none kVtold_key dctold_key pmtold_key antold_key cdtold_key cttold_key), sltold_key⟩)
    (ctold_key : PySem.W.codeIn K cdtold_key "told_key" = true)
    (ktold_key : PySem.W.keepIn K (.ref gtold_key) = true)
    (asubsets : PySem.W.nsIn K mainGlobals "subsets" = some (some (.ref gsubsets)))
    (lsubsets : K.lookup gsubsets = some ⟨ocsubsets, odsubsets, .func (PySem.W.fnOf "subsets" "subsets" (defArgs s_subsets) (defBody s_subsets) (defScope s_subsets) .none kVsubsets dcsubsets pmsubsets ansubsets cdsubsets ctsubsets), slsubsets⟩)
    (csubsets : PySem.W.codeIn K cdsubsets "subsets" = true)
    (ksubsets : PySem.W.keepIn K (.ref gsubsets) = true)
    (ais_part : PySem.W.nsIn K mainGlobals "is_part" = some (some (.ref gis_part)))
    (lis_part : K.lookup gis_part = some ⟨ocis_part, odis_part, .func (PySem.W.fnOf "is_part" "is_part" (defArgs s_is_part) (defBody s_is_part) (defScope s_is_part) .none kVis_part dcis_part pmis_part anis_part cdis_part ctis_part), slis_part⟩)
    (cis_part : PySem.W.codeIn K cdis_part "is_part" = true)
    (kis_part : PySem.W.keepIn K (.ref gis_part) = true)
    (aleast_of : PySem.W.nsIn K mainGlobals "least_of" = some (some (.ref gleast_of)))
    (lleast_of : K.lookup gleast_of = some ⟨ocleast_of, odleast_of, .func (PySem.W.fnOf "least_of" "least_of" (defArgs s_least_of) (defBody s_least_of) (defScope s_least_of) .none kVleast_of dcleast_of pmleast_of anleast_of cdleast_of ctleast_of), slleast_of⟩)
    (cleast_of : PySem.W.codeIn K cdleast_of "least_of" = true)
    (kleast_of : PySem.W.keepIn K (.ref gleast_of) = true)
    (ashares : PySem.W.nsIn K mainGlobals "shares" = some (some (.ref gshares)))
    (lshares : K.lookup gshares = some ⟨ocshares, odshares, .func (PySem.W.fnOf "shares" "shares" (defArgs s_shares) (defBody s_shares) (defScope s_shares) .none kVshares dcshares pmshares anshares cdshares ctshares), slshares⟩)
    (cshares : PySem.W.codeIn K cdshares "shares" = true)
    (kshares : PySem.W.keepIn K (.ref gshares) = true)
    (ablockers : PySem.W.nsIn K mainGlobals "blockers" = some (some (.ref gblockers)))
    (lblockers : K.lookup gblockers = some ⟨ocblockers, odblockers, .func (PySem.W.fnOf "blockers" "blockers" (defArgs s_blockers) (defBody s_blockers) (defScope s_blockers) .none kVblockers dcblockers pmblockers anblockers cdblockers ctblockers), slblockers⟩)
    (cblockers : PySem.W.codeIn K cdblockers "blockers" = true)
    (kblockers : PySem.W.keepIn K (.ref gblockers) = true)
    (ais_upward : PySem.W.nsIn K mainGlobals "is_upward" = some (some (.ref gis_upward)))
    (lis_upward : K.lookup gis_upward = some ⟨ocis_upward, odis_upward, .func (PySem.W.fnOf "is_upward" "is_upward" (defArgs s_is_upward) (defBody s_is_upward) (defScope s_is_upward) .none kVis_upward dcis_upward pmis_upward anis_upward cdis_upward ctis_upward), slis_upward⟩)
    (cis_upward : PySem.W.codeIn K cdis_upward "is_upward" = true)
    (kis_upward : PySem.W.keepIn K (.ref gis_upward) = true)
    (alaw_bag : PySem.W.nsIn K mainGlobals "_law_bag" = some (some (.ref glaw_bag)))
    (llaw_bag : K.lookup glaw_bag = some ⟨oclaw_bag, odlaw_bag, .func (PySem.W.fnOf "_law_bag" "_law_bag" (defArgs s_law_bag) (defBody s_law_bag) (defScope s_law_bag) .none kVlaw_bag dclaw_bag pmlaw_bag anlaw_bag cdlaw_bag ctlaw_bag), sllaw_bag⟩)
    (claw_bag : PySem.W.codeIn K cdlaw_bag "_law_bag" = true)
    (klaw_bag : PySem.W.keepIn K (.ref glaw_bag) = true)
    (alaw_take : PySem.W.nsIn K mainGlobals "_law_take" = some (some (.ref glaw_take)))
    (llaw_take : K.lookup glaw_take = some ⟨oclaw_take, odlaw_take, .func (PySem.W.fnOf "_law_take" "_law_take" (defArgs s_law_take) (defBody s_law_take) (defScope s_law_take) .none kVlaw_take dclaw_take pmlaw_take anlaw_take cdlaw_take ctlaw_take), sllaw_take⟩)
    (claw_take : PySem.W.codeIn K cdlaw_take "_law_take" = true)
    (klaw_take : PySem.W.keepIn K (.ref glaw_take) = true)
    (alaw_items : PySem.W.nsIn K mainGlobals "_law_items" = some (some (.ref glaw_items)))
    (llaw_items : K.lookup glaw_items = some ⟨oclaw_items, odlaw_items, .func (PySem.W.fnOf "_law_items" "_law_items" (defArgs s_law_items) (defBody s_law_items) (defScope s_law_items) .none kVlaw_items dclaw_items pmlaw_items anlaw_items cdlaw_items ctlaw_items), sllaw_items⟩)
    (claw_items : PySem.W.codeIn K cdlaw_items "_law_items" = true)
    (klaw_items : PySem.W.keepIn K (.ref glaw_items) = true)
    (alaw_parts : PySem.W.nsIn K mainGlobals "_law_parts" = some (some (.ref glaw_parts)))
    (llaw_parts : K.lookup glaw_parts = some ⟨oclaw_parts, odlaw_parts, .func (PySem.W.fnOf "_law_parts" "_law_parts" (defArgs s_law_parts) (defBody s_law_parts) (defScope s_law_parts) .none kVlaw_parts dclaw_parts pmlaw_parts anlaw_parts cdlaw_parts ctlaw_parts), sllaw_parts⟩)
    (claw_parts : PySem.W.codeIn K cdlaw_parts "_law_parts" = true)
    (klaw_parts : PySem.W.keepIn K (.ref glaw_parts) = true)
    (alaw_inside : PySem.W.nsIn K mainGlobals "_law_inside" = some (some (.ref glaw_inside)))
    (llaw_inside : K.lookup glaw_inside = some ⟨oclaw_inside, odlaw_inside, .func (PySem.W.fnOf "_law_inside" "_law_inside" (defArgs s_law_inside) (defBody s_law_inside) (defScope s_law_inside) .none kVlaw_inside dclaw_inside pmlaw_inside anlaw_inside cdlaw_inside ctlaw_inside), sllaw_inside⟩)
    (claw_inside : PySem.W.codeIn K cdlaw_inside "_law_inside" = true)
    (klaw_inside : PySem.W.keepIn K (.ref glaw_inside) = true)
    (alaw_least : PySem.W.nsIn K mainGlobals "_law_least" = some (some (.ref glaw_least)))
    (llaw_least : K.lookup glaw_least = some ⟨oclaw_least, odlaw_least, .func (PySem.W.fnOf "_law_least" "_law_least" (defArgs s_law_least) (defBody s_law_least) (defScope s_law_least) .none kVlaw_least dclaw_least pmlaw_least anlaw_least cdlaw_least ctlaw_least), sllaw_least⟩)
    (claw_least : PySem.W.codeIn K cdlaw_least "_law_least" = true)
    (klaw_least : PySem.W.keepIn K (.ref glaw_least) = true)
    (alaw_meets : PySem.W.nsIn K mainGlobals "_law_meets" = some (some (.ref glaw_meets)))
    (llaw_meets : K.lookup glaw_meets = some ⟨oclaw_meets, odlaw_meets, .func (PySem.W.fnOf "_law_meets" "_law_meets" (defArgs s_law_meets) (defBody s_law_meets) (defScope s_law_meets) .none kVlaw_meets dclaw_meets pmlaw_meets anlaw_meets cdlaw_meets ctlaw_meets), sllaw_meets⟩)
    (claw_meets : PySem.W.codeIn K cdlaw_meets "_law_meets" = true)
    (klaw_meets : PySem.W.keepIn K (.ref glaw_meets) = true)
    (alaw_blockers : PySem.W.nsIn K mainGlobals "_law_blockers" = some (some (.ref glaw_blockers)))
    (llaw_blockers : K.lookup glaw_blockers = some ⟨oclaw_blockers, odlaw_blockers, .func (PySem.W.fnOf "_law_blockers" "_law_blockers" (defArgs s_law_blockers) (defBody s_law_blockers) (defScope s_law_blockers) .none kVlaw_blockers dclaw_blockers pmlaw_blockers anlaw_blockers cdlaw_blockers ctlaw_blockers), sllaw_blockers⟩)
    (claw_blockers : PySem.W.codeIn K cdlaw_blockers "_law_blockers" = true)
    (klaw_blockers : PySem.W.keepIn K (.ref glaw_blockers) = true)
    (alaw_upward : PySem.W.nsIn K mainGlobals "_law_upward" = some (some (.ref glaw_upward)))
    (llaw_upward : K.lookup glaw_upward = some ⟨oclaw_upward, odlaw_upward, .func (PySem.W.fnOf "_law_upward" "_law_upward" (defArgs s_law_upward) (defBody s_law_upward) (defScope s_law_upward) .none kVlaw_upward dclaw_upward pmlaw_upward anlaw_upward cdlaw_upward ctlaw_upward), sllaw_upward⟩)
    (claw_upward : PySem.W.codeIn K cdlaw_upward "_law_upward" = true)
    (klaw_upward : PySem.W.keepIn K (.ref glaw_upward) = true)
    (alaw_family : PySem.W.nsIn K mainGlobals "_law_family" = some (some (.ref glaw_family)))
    (llaw_family : K.lookup glaw_family = some ⟨oclaw_family, odlaw_family, .func (PySem.W.fnOf "_law_family" "_law_family" (defArgs s_law_family) (defBody s_law_family) (defScope s_law_family) .none kVlaw_family dclaw_family pmlaw_family anlaw_family cdlaw_family ctlaw_family), sllaw_family⟩)
    (claw_family : PySem.W.codeIn K cdlaw_family "_law_family" = true)
    (klaw_family : PySem.W.keepIn K (.ref glaw_family) = true)
    (alaw_right : PySem.W.nsIn K mainGlobals "_law_right" = some (some (.ref glaw_right)))
    (llaw_right : K.lookup glaw_right = some ⟨oclaw_right, odlaw_right, .func (PySem.W.fnOf "_law_right" "_law_right" (defArgs s_law_right) (defBody s_law_right) (defScope s_law_right) .none kVlaw_right dclaw_right pmlaw_right anlaw_right cdlaw_right ctlaw_right), sllaw_right⟩)
    (claw_right : PySem.W.codeIn K cdlaw_right "_law_right" = true)
    (klaw_right : PySem.W.keepIn K (.ref glaw_right) = true)
    (alaw : PySem.W.nsIn K mainGlobals "law" = some (some (.ref glaw)))
    (llaw : K.lookup glaw = some ⟨oclaw, odlaw, .func (PySem.W.fnOf "law" "law" (defArgs s_law) (defBody s_law) (defScope s_law) .none kVlaw dclaw pmlaw anlaw cdlaw ctlaw), sllaw⟩)
    (claw : PySem.W.codeIn K cdlaw "law" = true)
    (klaw : PySem.W.keepIn K (.ref glaw) = true)
    (zabs : PySem.W.nsIn K mainGlobals "abs" = some none)
    (zall : PySem.W.nsIn K mainGlobals "all" = some none)
    (zany : PySem.W.nsIn K mainGlobals "any" = some none)
    (zint : PySem.W.nsIn K mainGlobals "int" = some none)
    (zlen : PySem.W.nsIn K mainGlobals "len" = some none)
    (zlist : PySem.W.nsIn K mainGlobals "list" = some none)
    (zmax : PySem.W.nsIn K mainGlobals "max" = some none)
    (zmin : PySem.W.nsIn K mainGlobals "min" = some none)
    (zrange : PySem.W.nsIn K mainGlobals "range" = some none)
    (zrepr : PySem.W.nsIn K mainGlobals "repr" = some none)
    (zsorted : PySem.W.nsIn K mainGlobals "sorted" = some none)
    (ztuple : PySem.W.nsIn K mainGlobals "tuple" = some none) :
    ∃ fd : FuncData, (∀ (s : Shared) (v : Value), BindsTo s fd ⟨[v], []⟩ [("_law_script", v)]) ∧ ∀ base : Heap, K.In base → base.Ns mainGlobals mg → FnG l.prog w K mg base CX0 7 fa fd ["_law_script"] (spLaw K) := by
  have e := hfa.symm.trans (PySem.W.mg_of X G alaw)
  cases e
  have T : Tx (gam K) mg := ⟨PySem.W.mg_none_of X G zabs, PySem.W.mg_none_of X G zall, PySem.W.mg_none_of X G zany, PySem.W.mg_none_of X G zint, PySem.W.mg_none_of X G zlen, PySem.W.mg_none_of X G zlist, PySem.W.mg_none_of X G zmax, PySem.W.mg_none_of X G zmin, PySem.W.mg_none_of X G zrange, PySem.W.mg_none_of X G zrepr, PySem.W.mg_none_of X G zsorted, PySem.W.mg_none_of X G ztuple⟩
  have Ftold_key := fun_mk (st := s_told_key) ltold_key ctold_key ktold_key
  have btold_key := Ftold_key.binds (ps := ["numbers"]) fun _ _ _ _ _ _ us hl => match us, hl with | [_], _ => rfl
  have Fsubsets := fun_mk (st := s_subsets) lsubsets csubsets ksubsets
  have bsubsets := Fsubsets.binds (ps := ["items"]) fun _ _ _ _ _ _ us hl => match us, hl with | [_], _ => rfl
  have Fis_part := fun_mk (st := s_is_part) lis_part cis_part kis_part
  have bis_part := Fis_part.binds (ps := ["part", "whole"]) fun _ _ _ _ _ _ us hl => match us, hl with | [_, _], _ => rfl
  have Fleast_of := fun_mk (st := s_least_of) lleast_of cleast_of kleast_of
  have bleast_of := Fleast_of.binds (ps := ["family"]) fun _ _ _ _ _ _ us hl => match us, hl with | [_], _ => rfl
  have Fshares := fun_mk (st := s_shares) lshares cshares kshares
  have bshares := Fshares.binds (ps := ["one", "other"]) fun _ _ _ _ _ _ us hl => match us, hl with | [_, _], _ => rfl
  have Fblockers := fun_mk (st := s_blockers) lblockers cblockers kblockers
  have bblockers := Fblockers.binds (ps := ["family"]) fun _ _ _ _ _ _ us hl => match us, hl with | [_], _ => rfl
  have Fis_upward := fun_mk (st := s_is_upward) lis_upward cis_upward kis_upward
  have bis_upward := Fis_upward.binds (ps := ["family", "items"]) fun _ _ _ _ _ _ us hl => match us, hl with | [_, _], _ => rfl
  have Flaw_bag := fun_mk (st := s_law_bag) llaw_bag claw_bag klaw_bag
  have blaw_bag := Flaw_bag.binds (ps := ["_law_script", "_law_at"]) fun _ _ _ _ _ _ us hl => match us, hl with | [_, _], _ => rfl
  have Flaw_take := fun_mk (st := s_law_take) llaw_take claw_take klaw_take
  have blaw_take := Flaw_take.binds (ps := ["_law_bag_here", "_law_many"]) fun _ _ _ _ _ _ us hl => match us, hl with | [_, _], _ => rfl
  have Flaw_items := fun_mk (st := s_law_items) llaw_items claw_items klaw_items
  have blaw_items := Flaw_items.binds (ps := ["_law_bag_here", "_law_many"]) fun _ _ _ _ _ _ us hl => match us, hl with | [_, _], _ => rfl
  have Flaw_parts := fun_mk (st := s_law_parts) llaw_parts claw_parts klaw_parts
  have blaw_parts := Flaw_parts.binds (ps := ["_law_items_here"]) fun _ _ _ _ _ _ us hl => match us, hl with | [_], _ => rfl
  have Flaw_inside := fun_mk (st := s_law_inside) llaw_inside claw_inside klaw_inside
  have blaw_inside := Flaw_inside.binds (ps := ["_law_part", "_law_whole"]) fun _ _ _ _ _ _ us hl => match us, hl with | [_, _], _ => rfl
  have Flaw_least := fun_mk (st := s_law_least) llaw_least claw_least klaw_least
  have blaw_least := Flaw_least.binds (ps := ["_law_family_here"]) fun _ _ _ _ _ _ us hl => match us, hl with | [_], _ => rfl
  have Flaw_meets := fun_mk (st := s_law_meets) llaw_meets claw_meets klaw_meets
  have blaw_meets := Flaw_meets.binds (ps := ["_law_part", "_law_family_here"]) fun _ _ _ _ _ _ us hl => match us, hl with | [_, _], _ => rfl
  have Flaw_blockers := fun_mk (st := s_law_blockers) llaw_blockers claw_blockers klaw_blockers
  have blaw_blockers := Flaw_blockers.binds (ps := ["_law_items_here", "_law_family_here"]) fun _ _ _ _ _ _ us hl => match us, hl with | [_, _], _ => rfl
  have Flaw_upward := fun_mk (st := s_law_upward) llaw_upward claw_upward klaw_upward
  have blaw_upward := Flaw_upward.binds (ps := ["_law_family_here", "_law_items_here"]) fun _ _ _ _ _ _ us hl => match us, hl with | [_, _], _ => rfl
  have Flaw_family := fun_mk (st := s_law_family) llaw_family claw_family klaw_family
  have blaw_family := Flaw_family.binds (ps := ["_law_bag_here", "_law_items_here"]) fun _ _ _ _ _ _ us hl => match us, hl with | [_, _], _ => rfl
  have Flaw_right := fun_mk (st := s_law_right) llaw_right claw_right klaw_right
  have blaw_right := Flaw_right.binds (ps := ["_law_items_here", "_law_family_here"]) fun _ _ _ _ _ _ us hl => match us, hl with | [_, _], _ => rfl
  have Flaw := fun_mk (st := s_law) llaw claw klaw
  have blaw := Flaw.binds (ps := ["_law_script"]) fun _ _ _ _ _ _ us hl => match us, hl with | [_], _ => rfl
  refine ⟨PySem.W.fnOf "law" "law" (defArgs s_law) (defBody s_law) (defScope s_law) .none kVlaw dclaw pmlaw anlaw cdlaw ctlaw, fun s v => .of_eq rfl, fun base _ _ => ?_⟩
  · skip
    have C_told_key : Ca (gam K) l.prog w mg base "told_key" 1 f_told_key 1 := ⟨gtold_key, _, _, d_told_key Ftold_key T , PySem.W.mg_of X G atold_key, ktold_key, btold_key⟩
    have G_subsets : CgX (gam K) l.prog w mg base xc0 "subsets" 1 x_subsets [] 1 := ⟨gsubsets, _, _, d_subsets Fsubsets T , rfl, PySem.W.mg_of X G asubsets, ksubsets, bsubsets⟩
    have C_is_part : Ca (gam K) l.prog w mg base "is_part" 2 f_is_part 1 := ⟨gis_part, _, _, d_is_part Fis_part T , PySem.W.mg_of X G ais_part, kis_part, bis_part⟩
    have C_least_of : Ca (gam K) l.prog w mg base "least_of" 1 f_least_of 4 := ⟨gleast_of, _, _, d_least_of Fleast_of T C_told_key C_is_part, PySem.W.mg_of X G aleast_of, kleast_of, bleast_of⟩
    have C_shares : Ca (gam K) l.prog w mg base "shares" 2 f_shares 1 := ⟨gshares, _, _, d_shares Fshares T , PySem.W.mg_of X G ashares, kshares, bshares⟩
    have C_blockers : Ca (gam K) l.prog w mg base "blockers" 1 f_blockers 5 := ⟨gblockers, _, _, d_blockers Fblockers T C_least_of C_shares, PySem.W.mg_of X G ablockers, kblockers, bblockers⟩
    have C_is_upward : Ca (gam K) l.prog w mg base "is_upward" 2 f_is_upward 1 := ⟨gis_upward, _, _, d_is_upward Fis_upward T , PySem.W.mg_of X G ais_upward, kis_upward, bis_upward⟩
    have C_law_bag : Ca (gam K) l.prog w mg base "_law_bag" 2 f_law_bag 1 := ⟨glaw_bag, _, _, d_law_bag Flaw_bag T , PySem.W.mg_of X G alaw_bag, klaw_bag, blaw_bag⟩
    have C_law_take : Ca (gam K) l.prog w mg base "_law_take" 2 f_law_take 1 := ⟨glaw_take, _, _, d_law_take Flaw_take T , PySem.W.mg_of X G alaw_take, klaw_take, blaw_take⟩
    have C_law_items : Ca (gam K) l.prog w mg base "_law_items" 2 f_law_items 2 := ⟨glaw_items, _, _, d_law_items Flaw_items T C_law_take, PySem.W.mg_of X G alaw_items, klaw_items, blaw_items⟩
    have C_law_parts : Ca (gam K) l.prog w mg base "_law_parts" 1 f_law_parts 1 := ⟨glaw_parts, _, _, d_law_parts Flaw_parts T , PySem.W.mg_of X G alaw_parts, klaw_parts, blaw_parts⟩
    have C_law_inside : Ca (gam K) l.prog w mg base "_law_inside" 2 f_law_inside 1 := ⟨glaw_inside, _, _, d_law_inside Flaw_inside T , PySem.W.mg_of X G alaw_inside, klaw_inside, blaw_inside⟩
    have C_law_least : Ca (gam K) l.prog w mg base "_law_least" 1 f_law_least 2 := ⟨glaw_least, _, _, d_law_least Flaw_least T C_law_inside, PySem.W.mg_of X G alaw_least, klaw_least, blaw_least⟩
    have C_law_meets : Ca (gam K) l.prog w mg base "_law_meets" 2 f_law_meets 1 := ⟨glaw_meets, _, _, d_law_meets Flaw_meets T , PySem.W.mg_of X G alaw_meets, klaw_meets, blaw_meets⟩
    have C_law_blockers : Ca (gam K) l.prog w mg base "_law_blockers" 2 f_law_blockers 2 := ⟨glaw_blockers, _, _, d_law_blockers Flaw_blockers T C_law_parts C_law_inside C_law_meets, PySem.W.mg_of X G alaw_blockers, klaw_blockers, blaw_blockers⟩
    have C_law_upward : Ca (gam K) l.prog w mg base "_law_upward" 2 f_law_upward 1 := ⟨glaw_upward, _, _, d_law_upward Flaw_upward T , PySem.W.mg_of X G alaw_upward, klaw_upward, blaw_upward⟩
    have C_law_family : Ca (gam K) l.prog w mg base "_law_family" 2 f_law_family 2 := ⟨glaw_family, _, _, d_law_family Flaw_family T C_law_parts C_law_take C_law_inside, PySem.W.mg_of X G alaw_family, klaw_family, blaw_family⟩
    have X_law_right : CaX (gam K) l.prog w mg base xc0 "_law_right" 2 (g_law_right) 6 := ⟨glaw_right, _, _, d_law_right Flaw_right T C_least_of C_blockers C_law_blockers C_law_least C_is_upward C_law_upward, PySem.W.mg_of X G alaw_right, klaw_right, blaw_right⟩
    have dl := d_law Flaw T C_law_bag C_law_items C_law_take G_subsets C_law_parts C_law_family X_law_right
    exact dl.noX.imp fun vs H Q E h => spLaw_sp hL h
theorem walk {l : PySem.W.OpenLaw} {q : Program} {loose : List Str} {XP : (Str → Option Value) → Heap → Prop} {YP : World → Heap → Prop} {d : DefRec} {K : Params → PySem.W.Frag} (hn : l.most = some 63) (hdf : d.params.defaults = [])
    (hY : ∀ (w : World) (h : Heap), YP w h → (K w.params).In h)
    (F : ∀ (w : World) (mg : Str → Option Value) (fa : Addr) (h : Heap), (K w.params).In h → h.Ns mainGlobals mg → mg d.name = some (.ref fa) →
      ∃ fd : FuncData, (∀ (s : Shared) (u : Value), BindsTo s fd ⟨[u], []⟩ [("_law_script", u)]) ∧ ∀ base : Heap, (K w.params).In base → base.Ns mainGlobals mg → FnG l.prog w (K w.params) mg base CX0 7 fa fd ["_law_script"] (spLaw (K w.params))) :
    PySem.W.WalkO q loose XP YP l.row.toRowW d [] (fun f vs => PySem.call f vs) :=
  walk_ofG (n := 63) (k := 7) (x := "_law_script") (sp := fun w => spLaw (K w.params)) hn (by decide) hdf ⟨rfl, by decide, by decide⟩ hY F (fun _ _ a ns hl _ hS => ⟨a, ns, rfl, hS, hl, fun _ => rfl⟩)
end K
open PySem PySem.W PyProof.Rows
set_option maxRecDepth 100000 in
set_option maxHeartbeats 0 in
theorem PySem.Challenge.cw_filedalike_k32_families_of_sets_holds : PySem.Challenge.rw_filedalike_k32_families_of_sets.Holds := by
  w_on; o_law; k_head; (case hw => w_witness2)
  k_fill
  refine K.walk (l := PySem.Challenge.rw_filedalike_k32_families_of_sets) rfl rfl (fun w h Y => PySem.W.kIn_of Y) ?F
  case F =>
    intro w mg fa h KX G hmg
    refine' K.all_mk K.law_true KX G hmg ?atold_key ?ltold_key ?ctold_key ?ktold_key ?asubsets ?lsubsets ?csubsets ?ksubsets ?ais_part ?lis_part ?cis_part ?kis_part ?aleast_of ?lleast_of ?cleast_of ?kleast_of ?ashares ?lshares ?cshares ?kshares ?ablockers ?lblockers ?cblockers ?kblockers ?ais_upward ?lis_upward ?cis_upward ?kis_upward ?alaw_bag ?llaw_bag ?claw_bag ?klaw_bag ?alaw_take ?llaw_take ?claw_take ?klaw_take ?alaw_items ?llaw_items ?claw_items ?klaw_items ?alaw_parts ?llaw_parts ?claw_parts ?klaw_parts ?alaw_inside ?llaw_inside ?claw_inside ?klaw_inside ?alaw_least ?llaw_least ?claw_least ?klaw_least ?alaw_meets ?llaw_meets ?claw_meets ?klaw_meets ?alaw_blockers ?llaw_blockers ?claw_blockers ?klaw_blockers ?alaw_upward ?llaw_upward ?claw_upward ?klaw_upward ?alaw_family ?llaw_family ?claw_family ?klaw_family ?alaw_right ?llaw_right ?claw_right ?klaw_right ?alaw ?llaw ?claw ?klaw ?zabs ?zall ?zany ?zint ?zlen ?zlist ?zmax ?zmin ?zrange ?zrepr ?zsorted ?ztuple
    (case atold_key => k_is); (case ltold_key => k_is); (case ctold_key => k_is); (case ktold_key => k_is); (case asubsets => k_is); (case lsubsets => k_is)
    (case csubsets => k_is); (case ksubsets => k_is); (case ais_part => k_is); (case lis_part => k_is); (case cis_part => k_is); (case kis_part => k_is)
    (case aleast_of => k_is); (case lleast_of => k_is); (case cleast_of => k_is); (case kleast_of => k_is); (case ashares => k_is); (case lshares => k_is)
    (case cshares => k_is); (case kshares => k_is); (case ablockers => k_is); (case lblockers => k_is); (case cblockers => k_is); (case kblockers => k_is)
    (case ais_upward => k_is); (case lis_upward => k_is); (case cis_upward => k_is); (case kis_upward => k_is); (case alaw_bag => k_is); (case llaw_bag => k_is)
    (case claw_bag => k_is); (case klaw_bag => k_is); (case alaw_take => k_is); (case llaw_take => k_is); (case claw_take => k_is); (case klaw_take => k_is)
    (case alaw_items => k_is); (case llaw_items => k_is); (case claw_items => k_is); (case klaw_items => k_is); (case alaw_parts => k_is); (case llaw_parts => k_is)
    (case claw_parts => k_is); (case klaw_parts => k_is); (case alaw_inside => k_is); (case llaw_inside => k_is); (case claw_inside => k_is); (case klaw_inside => k_is)
    (case alaw_least => k_is); (case llaw_least => k_is); (case claw_least => k_is); (case klaw_least => k_is); (case alaw_meets => k_is); (case llaw_meets => k_is)
    (case claw_meets => k_is); (case klaw_meets => k_is); (case alaw_blockers => k_is); (case llaw_blockers => k_is); (case claw_blockers => k_is); (case klaw_blockers => k_is)
    (case alaw_upward => k_is); (case llaw_upward => k_is); (case claw_upward => k_is); (case klaw_upward => k_is); (case alaw_family => k_is); (case llaw_family => k_is)
    (case claw_family => k_is); (case klaw_family => k_is); (case alaw_right => k_is); (case llaw_right => k_is); (case claw_right => k_is); (case klaw_right => k_is)
    (case alaw => k_is); (case llaw => k_is); (case claw => k_is); (case klaw => k_is); (case zabs => k_is); (case zall => k_is)
    (case zany => k_is); (case zint => k_is); (case zlen => k_is); (case zlist => k_is); (case zmax => k_is); (case zmin => k_is)
    (case zrange => k_is); (case zrepr => k_is); (case zsorted => k_is); (case ztuple => k_is)



